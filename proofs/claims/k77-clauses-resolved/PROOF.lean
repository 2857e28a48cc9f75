import PyProof.Rows.All
import HandS.ForMost
import HandS.ForExc
import HandS.Deep
import HandS.Wide
import HandS.TupAny
import HandS.IsInst
import HandS.Flow
import HandS.SortInts
import HandS.More
import HandS.TupLen
import HandS.Style
import HandS.Zip
import HandS.DictComp
import HandS.Small
import HandS.SortKw
import HandS.Slots
import KE.KSortKeySt
import HandS.WordsExc
import HandS.Codes
import PySem.Challenge.RW_wholetruths_k77_whole_clauses_resolved
set_option Elab.async false
set_option linter.all false
set_option maxRecDepth 100000
set_option maxHeartbeats 2000000
/-! # DeA: plain nested data, how it lies in the abstract heap, ownership -/
namespace DE
open PySem PySem.Spec PyProof.Rows L2

/-- plain data; o: the list or dict is owned by the name that holds it (it may be changed in place) -/
inductive D where
  | non | bl (b : Bool) | int (i : Int) | str (x : Str)
  | tup (xs : List D)
  | lst (o : Bool) (xs : List D)
  | frl (xs : List Int)
  | dic (o : Bool) (kvs : List (D × D))
  deriving Inhabited

abbrev Env := List (Option D)
/-- what running a piece of text gives: a value and the names' values behind it, an exception, or nothing is said -/
inductive Out (α : Type) where
  | ok (a : α) (r : Env)
  | exc (c : Str) (x : D) (r : Env)
  | stuck
def Out.bind {α β : Type} (x : Out α) (k : α → Env → Out β) : Out β :=
  match x with
  | .ok a r => k a r
  | .exc c x r => .exc c x r
  | .stuck => .stuck

abbrev AP := Addr → Prop
/-- how often an address is owned -/
abbrev Fp := Addr → Nat
def sing (a : Addr) : Fp := fun b => if b = a then 1 else 0
theorem sing_self (a : Addr) : sing a a = 1 := if_pos rfl
theorem sing_ne {a b : Addr} (h : b ≠ a) : sing a b = 0 := if_neg h

def kD : Key → D
  | .inl i => .int i
  | .inr x => .str x

/-- a tuple of the written part -/
def KTup (K : PySem.W.Frag) (a : Addr) (xs : List V) : Prop :=
  ∃ (o : Obj) (its : Array Value) (n : Nat), K.lookup a = some o ∧ o.cls = .type "tuple" ∧ o.data = .seq its n ∧ its.size ≤ sizeLine ∧ Vals xs its.toList
/-- the script's list: known to the object, or the module's own -/
def FrlAt (K : PySem.W.Frag) (H : Hp) (I : AP) (a : Addr) (ns : List Int) : Prop :=
  (I a ∧ ∃ o, H a = some (.frz o (.lst (ns.map V.int)))) ∨
    ∃ (o : Obj) (its : Array Value) (n : Nat), K.lookup a = some o ∧ o.cls = .type "list" ∧ o.dict = none ∧ o.data = .seq its n ∧ its.size ≤ sizeLine ∧ Vals (ns.map V.int) its.toList
theorem FrlAt.sq {K : PySem.W.Frag} {H : Hp} {I : AP} {a : Addr} {ns : List Int} (h : FrlAt K H I a ns) : SqL K H a (ns.map V.int) := h.elim (fun ⟨_, o, e⟩ => .inl (.inr ⟨o, e⟩)) .inr
theorem FrlAt.mono {K : PySem.W.Frag} {H H' : Hp} {I I' : AP} {a : Addr} {ns : List Int} (h : FrlAt K H I a ns) (hI : ∀ b, I b → I' b) (k : ∀ b o, I b → H b = some o → H' b = some o) : FrlAt K H' I' a ns := h.elim (fun ⟨i, o, e⟩ => .inl ⟨hI _ i, o, k _ _ i e⟩) .inr

mutual
inductive Rep (K : PySem.W.Frag) (H : Hp) (I : AP) : V → D → Fp → Prop
  | non {F : Fp} (hF : ∀ b, F b = 0) : Rep K H I .non .non F
  | bl {F : Fp} (x : Bool) (hF : ∀ b, F b = 0) : Rep K H I (.bl x) (.bl x) F
  | int {F : Fp} (i : Int) (hF : ∀ b, F b = 0) : Rep K H I (.int i) (.int i) F
  | str {F : Fp} (x : Str) (hF : ∀ b, F b = 0) : Rep K H I (.str x) (.str x) F
  | tup {F G : Fp} {a : Addr} {vs : List V} {ds : List D} (hI : I a) (h : H a = some (.tup vs)) (hz : vs.length ≤ sizeLine) (r : Reps K H I vs ds G) (hG : ∀ b, G b = 0) (hF : ∀ b, F b = 0) : Rep K H I (.ref a) (.tup ds) F
  | tupK {F G : Fp} {a : Addr} {vs : List V} {ds : List D} (h : KTup K a vs) (hz : vs.length ≤ sizeLine) (r : Reps K H I vs ds G) (hG : ∀ b, G b = 0) (hF : ∀ b, F b = 0) : Rep K H I (.ref a) (.tup ds) F
  | lstS {F G : Fp} {a : Addr} {vs : List V} {ds : List D} (hI : I a) (h : H a = some (.lst vs)) (hz : vs.length ≤ sizeLine) (r : Reps K H I vs ds G) (hG : ∀ b, G b = 0) (hF : ∀ b, F b = 0) : Rep K H I (.ref a) (.lst false ds) F
  | lstO {F G : Fp} {a : Addr} {vs : List V} {ds : List D} (h : H a = some (.lst vs)) (hz : vs.length ≤ sizeLine) (r : Reps K H I vs ds G) (hF : ∀ b, F b = sing a b + G b) : Rep K H I (.ref a) (.lst true ds) F
  | frl {F : Fp} {a : Addr} {ns : List Int} (h : FrlAt K H I a ns) (hz : ns.length ≤ sizeLine) (hF : ∀ b, F b = 0) : Rep K H I (.ref a) (.frl ns) F
  | dKS {F G : Fp} {a : Addr} {kvs : List (Key × V)} {ds : List (D × D)} (hI : I a) (h : H a = some (.dK kvs)) (hk : ds.map (·.1) = kvs.map fun p => kD p.1) (r : Reps K H I (kvs.map (·.2)) (ds.map (·.2)) G) (hG : ∀ b, G b = 0) (hF : ∀ b, F b = 0) : Rep K H I (.ref a) (.dic false ds) F
  | dKO {F G : Fp} {a : Addr} {kvs : List (Key × V)} {ds : List (D × D)} (h : H a = some (.dK kvs)) (hk : ds.map (·.1) = kvs.map fun p => kD p.1) (r : Reps K H I (kvs.map (·.2)) (ds.map (·.2)) G) (hF : ∀ b, F b = sing a b + G b) : Rep K H I (.ref a) (.dic true ds) F
  | dTS {F G : Fp} {a : Addr} {kvs : List (List Key × V)} {ds : List (D × D)} (hI : I a) (h : H a = some (.dT kvs)) (hne : kvs ≠ []) (hk : ds.map (·.1) = kvs.map fun p => .tup (p.1.map kD)) (r : Reps K H I (kvs.map (·.2)) (ds.map (·.2)) G) (hG : ∀ b, G b = 0) (hF : ∀ b, F b = 0) : Rep K H I (.ref a) (.dic false ds) F
  | dTO {F G : Fp} {a : Addr} {kvs : List (List Key × V)} {ds : List (D × D)} (h : H a = some (.dT kvs)) (hne : kvs ≠ []) (hk : ds.map (·.1) = kvs.map fun p => .tup (p.1.map kD)) (r : Reps K H I (kvs.map (·.2)) (ds.map (·.2)) G) (hF : ∀ b, F b = sing a b + G b) : Rep K H I (.ref a) (.dic true ds) F
inductive Reps (K : PySem.W.Frag) (H : Hp) (I : AP) : List V → List D → Fp → Prop
  | nil {F : Fp} (hF : ∀ b, F b = 0) : Reps K H I [] [] F
  | cons {F F1 F2 : Fp} {v : V} {vs : List V} {d : D} {ds : List D} (h : Rep K H I v d F1) (t : Reps K H I vs ds F2) (hF : ∀ b, F b = F1 b + F2 b) : Reps K H I (v :: vs) (d :: ds) F
end

section
variable {K : PySem.W.Frag} {H H' : Hp} {I I' : AP}
/-- the footprint may be told otherwise -/
theorem Rep.eqF {v : V} {d : D} {F G : Fp} (r : Rep K H I v d F) (h : ∀ b, G b = F b) : Rep K H I v d G := by
  cases r with
  | non hF => exact .non fun b => (h b).trans (hF b)
  | bl x hF => exact .bl x fun b => (h b).trans (hF b)
  | int x hF => exact .int x fun b => (h b).trans (hF b)
  | str x hF => exact .str x fun b => (h b).trans (hF b)
  | tup a1 a2 a3 a4 a5 hF => exact .tup a1 a2 a3 a4 a5 fun b => (h b).trans (hF b)
  | tupK a2 a3 a4 a5 hF => exact .tupK a2 a3 a4 a5 fun b => (h b).trans (hF b)
  | lstS a1 a2 a3 a4 a5 hF => exact .lstS a1 a2 a3 a4 a5 fun b => (h b).trans (hF b)
  | lstO a1 a2 a3 hF => exact .lstO a1 a2 a3 fun b => (h b).trans (hF b)
  | frl a2 a3 hF => exact .frl a2 a3 fun b => (h b).trans (hF b)
  | dKS a1 a2 a3 a4 a5 hF => exact .dKS a1 a2 a3 a4 a5 fun b => (h b).trans (hF b)
  | dKO a1 a2 a3 hF => exact .dKO a1 a2 a3 fun b => (h b).trans (hF b)
  | dTS a1 a2 an a3 a4 a5 hF => exact .dTS a1 a2 an a3 a4 a5 fun b => (h b).trans (hF b)
  | dTO a1 an a2 a3 hF => exact .dTO a1 an a2 a3 fun b => (h b).trans (hF b)
theorem Reps.eqF {v : List V} {d : List D} {F G : Fp} (r : Reps K H I v d F) (h : ∀ b, G b = F b) : Reps K H I v d G := by
  cases r with
  | nil hF => exact .nil fun b => (h b).trans (hF b)
  | cons a1 a2 hF => exact .cons a1 a2 fun b => (h b).trans (hF b)

/-- what is read stays where its objects stay -/
theorem Rep.mono (hI : ∀ b, I b → I' b) : (∀ {v : V} {d : D} {F : Fp}, Rep K H I v d F → (∀ b o, I b ∨ F b ≠ 0 → H b = some o → H' b = some o) → Rep K H' I' v d F) ∧
    (∀ {v : List V} {d : List D} {F : Fp}, Reps K H I v d F → (∀ b o, I b ∨ F b ≠ 0 → H b = some o → H' b = some o) → Reps K H' I' v d F) := by
  have zero : ∀ {F G : Fp}, (∀ b, G b = 0) → (∀ b o, I b ∨ F b ≠ 0 → H b = some o → H' b = some o) → (∀ b o, I b ∨ G b ≠ 0 → H b = some o → H' b = some o) := fun hG k b o h e =>
    k b o (h.elim Or.inl fun z => absurd (hG b) z) e
  have one : ∀ {F G : Fp} {a : Addr}, (∀ b, F b = sing a b + G b) → (∀ b o, I b ∨ F b ≠ 0 → H b = some o → H' b = some o) → (∀ b o, I b ∨ G b ≠ 0 → H b = some o → H' b = some o) := fun hF k b o h e =>
    k b o (h.elim Or.inl fun z => Or.inr (by rw [hF b]; omega)) e
  have own : ∀ {F G : Fp} {a : Addr}, (∀ b, F b = sing a b + G b) → F a ≠ 0 := fun {F G a} hF => by rw [hF a, sing_self]; omega
  refine ⟨fun {v d F} r => ?_, fun {v d F} r => ?_⟩
  · refine Rep.rec (motive_1 := fun v d F _ => (∀ b o, I b ∨ F b ≠ 0 → H b = some o → H' b = some o) → Rep K H' I' v d F)
      (motive_2 := fun v d F _ => (∀ b o, I b ∨ F b ≠ 0 → H b = some o → H' b = some o) → Reps K H' I' v d F) ?_ ?_ ?_ ?_ ?_ ?_ ?_ ?_ ?_ ?_ ?_ ?_ ?_ ?_ ?_ r
    · exact fun hF _ => .non hF
    · exact fun x hF _ => .bl x hF
    · exact fun x hF _ => .int x hF
    · exact fun x hF _ => .str x hF
    · exact fun hi h hz _ hG hF ih k => .tup (hI _ hi) (k _ _ (.inl hi) h) hz (ih (zero hG k)) hG hF
    · exact fun h hz _ hG hF ih k => .tupK h hz (ih (zero hG k)) hG hF
    · exact fun hi h hz _ hG hF ih k => .lstS (hI _ hi) (k _ _ (.inl hi) h) hz (ih (zero hG k)) hG hF
    · exact fun h hz _ hF ih k => .lstO (k _ _ (.inr (own hF)) h) hz (ih (one hF k)) hF
    · exact fun h hz hF k => .frl (h.mono hI fun b o i e => k b o (.inl i) e) hz hF
    · exact fun hi h hk _ hG hF ih k => .dKS (hI _ hi) (k _ _ (.inl hi) h) hk (ih (zero hG k)) hG hF
    · exact fun h hk _ hF ih k => .dKO (k _ _ (.inr (own hF)) h) hk (ih (one hF k)) hF
    · exact fun hi h hne hk _ hG hF ih k => .dTS (hI _ hi) (k _ _ (.inl hi) h) hne hk (ih (zero hG k)) hG hF
    · exact fun h hne hk _ hF ih k => .dTO (k _ _ (.inr (own hF)) h) hne hk (ih (one hF k)) hF
    · exact fun hF _ => .nil hF
    · exact fun _ _ hF i1 i2 k => .cons (i1 fun b o h e => k b o (h.elim .inl fun z => .inr (by rw [hF b]; omega)) e) (i2 fun b o h e => k b o (h.elim .inl fun z => .inr (by rw [hF b]; omega)) e) hF
  · refine Reps.rec (motive_1 := fun v d F _ => (∀ b o, I b ∨ F b ≠ 0 → H b = some o → H' b = some o) → Rep K H' I' v d F)
      (motive_2 := fun v d F _ => (∀ b o, I b ∨ F b ≠ 0 → H b = some o → H' b = some o) → Reps K H' I' v d F) ?_ ?_ ?_ ?_ ?_ ?_ ?_ ?_ ?_ ?_ ?_ ?_ ?_ ?_ ?_ r
    · exact fun hF _ => .non hF
    · exact fun x hF _ => .bl x hF
    · exact fun x hF _ => .int x hF
    · exact fun x hF _ => .str x hF
    · exact fun hi h hz _ hG hF ih k => .tup (hI _ hi) (k _ _ (.inl hi) h) hz (ih (zero hG k)) hG hF
    · exact fun h hz _ hG hF ih k => .tupK h hz (ih (zero hG k)) hG hF
    · exact fun hi h hz _ hG hF ih k => .lstS (hI _ hi) (k _ _ (.inl hi) h) hz (ih (zero hG k)) hG hF
    · exact fun h hz _ hF ih k => .lstO (k _ _ (.inr (own hF)) h) hz (ih (one hF k)) hF
    · exact fun h hz hF k => .frl (h.mono hI fun b o i e => k b o (.inl i) e) hz hF
    · exact fun hi h hk _ hG hF ih k => .dKS (hI _ hi) (k _ _ (.inl hi) h) hk (ih (zero hG k)) hG hF
    · exact fun h hk _ hF ih k => .dKO (k _ _ (.inr (own hF)) h) hk (ih (one hF k)) hF
    · exact fun hi h hne hk _ hG hF ih k => .dTS (hI _ hi) (k _ _ (.inl hi) h) hne hk (ih (zero hG k)) hG hF
    · exact fun h hne hk _ hF ih k => .dTO (k _ _ (.inr (own hF)) h) hne hk (ih (one hF k)) hF
    · exact fun hF _ => .nil hF
    · exact fun _ _ hF i1 i2 k => .cons (i1 fun b o h e => k b o (h.elim .inl fun z => .inr (by rw [hF b]; omega)) e) (i2 fun b o h e => k b o (h.elim .inl fun z => .inr (by rw [hF b]; omega)) e) hF
theorem Reps.length {vs : List V} {ds : List D} {F : Fp} : Reps K H I vs ds F → vs.length = ds.length := by
  induction vs generalizing ds F with
  | nil => intro r; cases r; rfl
  | cons v vs ih =>
    intro r
    cases r with
    | cons _ t _ => simp [ih t]
end

/-! ### worlds -/
structure Good (F : Fp) (H : Hp) (I : AP) : Prop where
  one : ∀ b, F b ≤ 1
  own : ∀ b, F b ≠ 0 → ¬ I b ∧ H b ≠ none
  imm : ∀ b, I b → H b ≠ none
/-- from the world (F0, H0, I0) to (F, H, I) by code that owns F0 -/
structure Step (F0 : Fp) (H0 : Hp) (I0 : AP) (F : Fp) (H : Hp) (I : AP) : Prop where
  mono : ∀ b, I0 b → I b
  keep : ∀ b o, H0 b = some o → F0 b = 0 → H b = some o
  newI : ∀ b, I b → I0 b ∨ F0 b ≠ 0 ∨ H0 b = none
  newF : ∀ b, F b ≠ 0 → F0 b ≠ 0 ∨ H0 b = none
  good : Good F H I
section
variable {F0 F1 F2 G : Fp} {H0 H1 H2 : Hp} {I0 I1 I2 : AP}
theorem Step.refl (g : Good F0 H0 I0) : Step F0 H0 I0 F0 H0 I0 := ⟨fun _ h => h, fun _ _ h _ => h, fun _ h => .inl h, fun _ h => .inl h, g⟩
theorem Step.trans (a : Step F0 H0 I0 F1 H1 I1) (b : Step F1 H1 I1 F2 H2 I2) : Step F0 H0 I0 F2 H2 I2 := by
  have kn : ∀ c, H1 c = none → F0 c ≠ 0 ∨ H0 c = none := fun c h => by
    by_cases q : F0 c = 0
    · cases e : H0 c with
      | none => exact .inr rfl
      | some o => rw [a.keep c o e q] at h; cases h
    · exact .inl q
  refine ⟨fun c h => b.mono c (a.mono c h), fun c o h q => b.keep c o (a.keep c o h q) ?_, fun c h => ?_, fun c h => ?_, b.good⟩
  · by_cases z : F1 c = 0
    · exact z
    · rcases a.newF c z with y | y
      · exact absurd q y
      · rw [h] at y; cases y
  · rcases b.newI c h with z | z | z
    · exact a.newI c z
    · exact .inr (a.newF c z)
    · exact .inr (kn c z)
  · rcases b.newF c h with z | z
    · exact a.newF c z
    · exact kn c z
/-- what others own stays -/
theorem Step.frame (s : Step F0 H0 I0 F1 H1 I1) (g : Good (fun b => F0 b + G b) H0 I0) : Step (fun b => F0 b + G b) H0 I0 (fun b => F1 b + G b) H1 I1 := by
  have key : ∀ b, G b ≠ 0 → F0 b = 0 ∧ F1 b = 0 ∧ ¬ I1 b ∧ H1 b ≠ none := fun b hb => by
    have h1 := g.one b
    have h2 : F0 b = 0 := by omega
    obtain ⟨h3, h4⟩ := g.own b (by omega)
    refine ⟨h2, ?_, fun z => ?_, fun z => ?_⟩
    · by_cases q : F1 b = 0
      · exact q
      · rcases s.newF b q with y | y
        · exact absurd h2 y
        · exact absurd y h4
    · rcases s.newI b z with y | y | y
      · exact h3 y
      · exact y h2
      · exact h4 y
    · cases e : H0 b with
      | none => exact h4 e
      | some o => rw [s.keep b o e h2] at z; cases z
  refine ⟨s.mono, fun b o h q => s.keep b o h (by omega), fun b h => ?_, fun b h => ?_, ⟨fun b => ?_, fun b h => ?_, s.good.imm⟩⟩
  · rcases s.newI b h with z | z | z
    · exact .inl z
    · exact .inr (.inl (by omega))
    · exact .inr (.inr z)
  · by_cases q : F1 b = 0
    · exact .inl (by omega)
    · rcases s.newF b q with z | z
      · exact .inl (by omega)
      · exact .inr z
  · by_cases q : G b = 0
    · have := s.good.one b; omega
    · have := (key b q).2.1
      have h1 := g.one b
      omega
  · by_cases q : G b = 0
    · exact s.good.own b (by omega)
    · exact (key b q).2.2
theorem Good.mono (g : Good F0 H0 I0) (h : ∀ b, F1 b ≤ F0 b) : Good F1 H0 I0 := ⟨fun b => Nat.le_trans (h b) (g.one b), fun b z => g.own b (by have := h b; omega), g.imm⟩
theorem Step.weak (s : Step F0 H0 I0 F1 H1 I1) (h : ∀ b, F2 b ≤ F1 b) : Step F0 H0 I0 F2 H1 I1 := ⟨s.mono, s.keep, s.newI, fun b z => s.newF b (by have := h b; omega), s.good.mono h⟩
theorem Step.eqF (s : Step F0 H0 I0 F1 H1 I1) (h : ∀ b, F2 b = F1 b) : Step F0 H0 I0 F2 H1 I1 := s.weak fun b => Nat.le_of_eq (h b)
/-- from a smaller part of what is owned -/
theorem Step.from (s : Step F0 H0 I0 F1 H1 I1) (g : Good (fun b => F0 b + G b) H0 I0) (h : ∀ b, F2 b = F0 b + G b) : Step F2 H0 I0 (fun b => F1 b + G b) H1 I1 := by
  have e : F2 = fun b => F0 b + G b := funext h
  rw [e]
  exact s.frame g
section
variable {K : PySem.W.Frag}
theorem Rep.step {v : V} {d : D} (r : Rep K H0 I0 v d G) (s : Step F0 H0 I0 F1 H1 I1) (g : Good (fun b => F0 b + G b) H0 I0) : Rep K H1 I1 v d G :=
  (Rep.mono s.mono).1 r fun b o h e => s.keep b o e (by
    have h1 := g.one b
    rcases h with z | z
    · by_cases q : F0 b = 0
      · exact q
      · exact absurd z (g.own b (by omega)).1
    · omega)
theorem Reps.step {v : List V} {d : List D} (r : Reps K H0 I0 v d G) (s : Step F0 H0 I0 F1 H1 I1) (g : Good (fun b => F0 b + G b) H0 I0) : Reps K H1 I1 v d G :=
  (Rep.mono s.mono).2 r fun b o h e => s.keep b o e (by
    have h1 := g.one b
    rcases h with z | z
    · by_cases q : F0 b = 0
      · exact q
      · exact absurd z (g.own b (by omega)).1
    · omega)
end
end
end DE
/-! # DeB: the names' values, the state between two steps, readings -/
namespace DE
open PySem PySem.Spec PyProof.Rows L2

inductive RelE (K : PySem.W.Frag) (H : Hp) (I : AP) : L2.St → Env → Fp → Prop
  | nl {F : Fp} (hF : ∀ b, F b = 0) : RelE K H I [] [] F
  | no {F : Fp} {o : Option V} {σ : L2.St} {ρ : Env} (t : RelE K H I σ ρ F) : RelE K H I (o :: σ) (none :: ρ) F
  | so {F F1 F2 : Fp} {v : V} {d : D} {σ : L2.St} {ρ : Env} (h : Rep K H I v d F1) (t : RelE K H I σ ρ F2) (hF : ∀ b, F b = F1 b + F2 b) : RelE K H I (some v :: σ) (some d :: ρ) F

/-- an operand: a name's value that is looked at when it is wanted, or a value of its own -/
inductive Opd where
  | slot (i : Nat) | val (d : D)
def Opd.get (ρ : Env) : Opd → Option D
  | .slot i => (ρ[i]?).join
  | .val d => some d
structure Tmp where
  v : V
  o : Opd
  G : Fp
def OpdRel (K : PySem.W.Frag) (H : Hp) (I : AP) (σ : L2.St) (v : V) (o : Opd) (G : Fp) : Prop :=
  match o with
  | .slot i => σ[i]? = some (some v) ∧ ∀ b, G b = 0
  | .val d => Rep K H I v d G
def tfp : List Tmp → Fp
  | [] => fun _ => 0
  | t :: r => fun b => t.G b + tfp r b
theorem tfp_append (a : List Tmp) (t : Tmp) (b : Addr) : tfp (a ++ [t]) b = tfp a b + t.G b := by
  induction a with
  | nil => simp [tfp]
  | cons x r ih => show x.G b + tfp (r ++ [t]) b = x.G b + tfp r b + t.G b; rw [ih]; omega
theorem tfp_app (a c : List Tmp) (b : Addr) : tfp (a ++ c) b = tfp a b + tfp c b := by
  induction a with
  | nil => simp [tfp]
  | cons x r ih => show x.G b + tfp (r ++ c) b = x.G b + tfp r b + tfp c b; rw [ih]; omega
theorem tfp_mem {T : List Tmp} {t : Tmp} (h : t ∈ T) (b : Addr) : t.G b ≤ tfp T b := by
  induction T with
  | nil => cases h
  | cons x r ih =>
    show t.G b ≤ x.G b + tfp r b
    rcases List.mem_cons.mp h with e | e
    · subst e; omega
    · have := ih e; omega

section
variable {K : PySem.W.Frag} {H H' : Hp} {I I' : AP} {σ : L2.St} {ρ : Env} {F : Fp}
theorem RelE.eqF {G : Fp} (r : RelE K H I σ ρ F) (h : ∀ b, G b = F b) : RelE K H I σ ρ G := by
  have e : G = F := funext h
  rw [e]; exact r
theorem RelE.length (r : RelE K H I σ ρ F) : σ.length = ρ.length := by
  induction r with
  | nl => rfl
  | no _ ih => simp [ih]
  | so _ _ _ ih => simp [ih]
theorem RelE.mono (hI : ∀ b, I b → I' b) (r : RelE K H I σ ρ F) (k : ∀ b o, I b ∨ F b ≠ 0 → H b = some o → H' b = some o) : RelE K H' I' σ ρ F := by
  induction r with
  | nl hF => exact .nl hF
  | no _ ih => exact .no (ih k)
  | so h _ hF ih => exact .so ((Rep.mono hI).1 h fun b o z e => k b o (z.elim .inl fun q => .inr (by rw [hF b]; omega)) e) (ih fun b o z e => k b o (z.elim .inl fun q => .inr (by rw [hF b]; omega)) e) hF
theorem RelE.step {F0 F1 : Fp} (r : RelE K H I σ ρ F) (s : Step F0 H I F1 H' I') (g : Good (fun b => F0 b + F b) H I) : RelE K H' I' σ ρ F :=
  RelE.mono s.mono r fun b o h e => s.keep b o e (by
    have h1 := g.one b
    rcases h with z | z
    · by_cases q : F0 b = 0
      · exact q
      · exact absurd z (g.own b (by omega)).1
    · omega)
/-- the value of a name -/
theorem RelE.get {i : Nat} {d : D} (r : RelE K H I σ ρ F) (e : ρ[i]? = some (some d)) : ∃ v G, σ[i]? = some (some v) ∧ Rep K H I v d G ∧ ∀ b, G b ≤ F b := by
  induction r generalizing i with
  | nl _ => simp at e
  | no _ ih =>
    cases i with
    | zero => simp at e
    | succ i => exact ih (by simpa using e)
  | so h _ hF ih =>
    cases i with
    | zero =>
      simp at e; subst e
      exact ⟨_, _, rfl, h, fun b => by rw [hF b]; omega⟩
    | succ i =>
      obtain ⟨v, G, h1, h2, h3⟩ := ih (i := i) (by simpa using e)
      exact ⟨v, G, by simpa using h1, h2, fun b => by rw [hF b]; have := h3 b; omega⟩
/-- a name takes another value: what it owned before is dropped -/
theorem RelE.set {i : Nat} {v : V} {d : D} {G : Fp} (r : RelE K H I σ ρ F) (hi : i < σ.length) (h : Rep K H I v d G) : ∃ F', RelE K H I (σ.set i (some v)) (ρ.set i (some d)) F' ∧ (∀ b, F' b ≤ F b + G b) := by
  induction r generalizing i with
  | nl _ => simp at hi
  | @no F o σ ρ t ih =>
    cases i with
    | zero => exact ⟨fun b => G b + F b, .so h t fun b => rfl, fun b => by dsimp only; omega⟩
    | succ i =>
      obtain ⟨F', h1, h2⟩ := ih (i := i) (by simpa using hi)
      exact ⟨F', .no h1, h2⟩
  | @so F F1 F2 v0 d0 σ ρ h0 t hF ih =>
    cases i with
    | zero => exact ⟨fun b => G b + F2 b, .so h t fun b => rfl, fun b => by have := hF b; dsimp only; omega⟩
    | succ i =>
      obtain ⟨F', h1, h2⟩ := ih (i := i) (by simpa using hi)
      exact ⟨fun b => F1 b + F' b, .so h0 h1 fun b => rfl, fun b => by have := hF b; have := h2 b; dsimp only; omega⟩
/-- the names apart from one: its value taken out -/
theorem RelE.take {i : Nat} {d : D} (r : RelE K H I σ ρ F) (e : ρ[i]? = some (some d)) : ∃ v G F', σ[i]? = some (some v) ∧ Rep K H I v d G ∧ RelE K H I σ (ρ.set i none) F' ∧ ∀ b, F b = G b + F' b := by
  induction r generalizing i with
  | nl _ => simp at e
  | @no F o σ ρ t ih =>
    cases i with
    | zero => simp at e
    | succ i =>
      obtain ⟨v, G, F', h1, h2, h3, h4⟩ := ih (i := i) (by simpa using e)
      exact ⟨v, G, F', by simpa using h1, h2, .no h3, h4⟩
  | @so F F1 F2 v0 d0 σ ρ h t hF ih =>
    cases i with
    | zero =>
      simp at e; subst e
      exact ⟨_, F1, F2, rfl, h, .no t, hF⟩
    | succ i =>
      obtain ⟨v, G, F', h1, h2, h3, h4⟩ := ih (i := i) (by simpa using e)
      exact ⟨v, G, fun b => F1 b + F' b, by simpa using h1, h2, .so h h3 fun b => rfl, fun b => by have := hF b; have := h4 b; dsimp only; omega⟩
theorem RelE.put_aux {v : V} {d : D} {G : Fp} (h : Rep K H I v d G) (r : RelE K H I σ ρ F) : ∀ i, σ[i]? = some (some v) → ρ[i]? = some none → RelE K H I σ (ρ.set i (some d)) (fun b => G b + F b) := by
  induction r with
  | nl _ => intro i e _; simp at e
  | @no F o σ ρ t ih =>
    intro i e e'
    cases i with
    | zero =>
      simp at e; subst e
      exact .so h t fun b => rfl
    | succ i => exact .no (ih i (by simpa using e) (by simpa using e'))
  | @so F F1 F2 v0 d0 σ ρ h0 t hF ih =>
    intro i e e'
    cases i with
    | zero => simp at e'
    | succ i => exact .so h0 (ih i (by simpa using e) (by simpa using e')) fun b => by have := hF b; omega
/-- .. and put in again, where the name's slot holds the same thing -/
theorem RelE.put {i : Nat} {v : V} {d : D} {G : Fp} (r : RelE K H I σ (ρ.set i none) F) (hi : σ[i]? = some (some v)) (hl : σ.length = ρ.length) (h : Rep K H I v d G) : RelE K H I σ (ρ.set i (some d)) (fun b => G b + F b) := by
  have hlt : i < σ.length := (List.getElem?_eq_some_iff.mp hi).1
  have q := RelE.put_aux h r i hi (by rw [List.getElem?_set_self (by omega)])
  rw [List.set_set] at q
  exact q
end

/-! ### the state between two steps -/
/-- the world at the beginning -/
structure Org where
  F : Fp
  H : Hp
  I : AP
structure Cur (K : PySem.W.Frag) (σ : L2.St) (o : Org) (ρ : Env) (H : Hp) (I : AP) (F : Fp) (T : List Tmp) : Prop where
  st : Step o.F o.H o.I (fun b => F b + tfp T b) H I
  env : RelE K H I σ ρ F
  tm : ∀ t ∈ T, OpdRel K H I σ t.v t.o t.G
/-- what is wanted of an exception: its class's name, its value, the slots, the heap -/
abbrev WishX := Str → V → L2.St → Hp → Prop
/-- how a thing b that has come stands for the plain thing a, owning G -/
abbrev RelR (α β : Type) := Hp → AP → β → α → Fp → Prop
def Post {α β : Type} (K : PySem.W.Frag) (W : WishX) (σ : L2.St) (o : Org) (rel : RelR α β) (Q : β → Hp → Prop) : Out α → Prop
  | .ok a ρ => ∀ b H I F G, Step o.F o.H o.I (fun x => F x + G x) H I → RelE K H I σ ρ F → rel H I b a G → Q b H
  | .exc c x ρ => ∀ v H I F G, Step o.F o.H o.I (fun x => F x + G x) H I → RelE K H I σ ρ F → Rep K H I v x G → W c v σ H
  | .stuck => False
def Rd {α β : Type} (K : PySem.W.Frag) (W : WishX) (rel : L2.St → RelR α β) (g : Env → Out α) : L2.St → Hp → (β → Hp → Prop) → Prop := fun σ H Q =>
  ∃ (o : Org) (ρ : Env), o.H = H ∧ Good o.F o.H o.I ∧ RelE K o.H o.I σ ρ o.F ∧ Post K W σ o (rel σ) Q (g ρ)

/-- a value that is its own -/
def rD (K : PySem.W.Frag) : L2.St → RelR D V := fun _ H I v d G => Rep K H I v d G
/-- an operand -/
def rO (K : PySem.W.Frag) : L2.St → RelR Opd V := fun σ H I v o G => OpdRel K H I σ v o G
/-- a truth -/
def rB : L2.St → RelR Bool Bool := fun _ _ _ b a G => b = a ∧ ∀ x, G x = 0

section
variable {K : PySem.W.Frag} {W : WishX} {σ : L2.St} {o : Org} {ρ : Env} {H : Hp} {I : AP} {F : Fp} {T : List Tmp}
theorem OpdRel.step {H' : Hp} {I' : AP} {F0 F1 : Fp} {v : V} {op : Opd} {G : Fp} (r : OpdRel K H I σ v op G) (s : Step F0 H I F1 H' I') (g : Good (fun b => F0 b + G b) H I) : OpdRel K H' I' σ v op G := by
  cases op with
  | slot i => exact r
  | val d => exact Rep.step (show Rep K H I v d G from r) s g
theorem Cur.start (g : Good o.F o.H o.I) (r : RelE K o.H o.I σ ρ o.F) : Cur K σ o ρ o.H o.I o.F [] :=
  ⟨(Step.refl g).eqF fun b => by simp [tfp], r, fun t h => nomatch h⟩
theorem Cur.good (c : Cur K σ o ρ H I F T) : Good (fun b => F b + tfp T b) H I := c.st.good
theorem Cur.goodE (c : Cur K σ o ρ H I F T) : Good F H I := c.good.mono fun b => by omega
/-- a part is run: its reading where the state is -/
theorem Cur.run {α β γ δ : Type} {rel : L2.St → RelR α β} {relQ : RelR γ δ} {Q : δ → Hp → Prop} {g : Env → Out α} {k : α → Env → Out γ} (c : Cur K σ o ρ H I F T) (p : Post K W σ o relQ Q ((g ρ).bind k)) :
    Rd K W rel g σ H (fun b H' => ∃ a ρ' I' F' G, Step o.F o.H o.I (fun x => F' x + tfp T x + G x) H' I' ∧ RelE K H' I' σ ρ' F' ∧ (∀ t ∈ T, OpdRel K H' I' σ t.v t.o t.G) ∧ rel σ H' I' b a G ∧ Post K W σ o relQ Q (k a ρ')) := by
  refine ⟨⟨F, H, I⟩, ρ, rfl, c.goodE, c.env, ?_⟩
  have frm : ∀ {H' : Hp} {I' : AP} {F' G : Fp}, Step F H I (fun x => F' x + G x) H' I' → Step o.F o.H o.I (fun x => F' x + tfp T x + G x) H' I' ∧ (∀ t ∈ T, OpdRel K H' I' σ t.v t.o t.G) := fun {H' I' F' G} s => by
    refine ⟨(c.st.trans (s.frame c.good)).eqF fun b => by omega, fun t ht => (c.tm t ht).step s (c.good.mono fun b => by have := tfp_mem ht b; omega)⟩
  cases e : g ρ with
  | ok a ρ' =>
    rw [e] at p
    intro b H' I' F' G s r rr
    obtain ⟨h1, h2⟩ := frm s
    exact ⟨a, ρ', I', F', G, h1, r, h2, rr, p⟩
  | exc x y ρ' =>
    rw [e] at p
    intro v H' I' F' G s r rr
    obtain ⟨h1, _⟩ := frm s
    exact p v H' I' F' G (h1.weak fun b => by omega) r rr
  | stuck => rw [e] at p; exact p
theorem Post.mono {α β : Type} {rel : RelR α β} {Q Q' : β → Hp → Prop} (h : ∀ v H, Q v H → Q' v H) : ∀ {x : Out α}, Post K W σ o rel Q x → Post K W σ o rel Q' x
  | .ok _ _, p => fun b H I F G s r q => h _ _ (p b H I F G s r q)
  | .exc _ _ _, p => p
  | .stuck, p => p
theorem Rd.mono {α β : Type} {rel : L2.St → RelR α β} {g : Env → Out α} {Q Q' : β → Hp → Prop} (h : ∀ v H, Q v H → Q' v H) : Rd K W rel g σ H Q → Rd K W rel g σ H Q' := fun ⟨o, ρ, e, gd, r, p⟩ => ⟨o, ρ, e, gd, r, p.mono h⟩
/-- .. an operand: it is put behind the others -/
theorem Cur.runO {γ δ : Type} {relQ : RelR γ δ} {Q : δ → Hp → Prop} {g : Env → Out Opd} {k : Opd → Env → Out γ} (c : Cur K σ o ρ H I F T) (p : Post K W σ o relQ Q ((g ρ).bind k)) {R : V → Hp → Prop}
    (h : ∀ v H' a ρ' I' F' G, Cur K σ o ρ' H' I' F' (T ++ [⟨v, a, G⟩]) → Post K W σ o relQ Q (k a ρ') → R v H') : Rd K W (rO K) g σ H R := by
  refine (c.run (rel := rO K) p).mono ?_
  rintro v H' ⟨a, ρ', I', F', G, s, r, tm, rr, p'⟩
  refine h v H' a ρ' I' F' G ⟨s.eqF fun b => by rw [tfp_append]; dsimp only; omega, r, fun t ht => ?_⟩ p'
  rcases List.mem_append.mp ht with z | z
  · exact tm t z
  · cases List.mem_singleton.mp z
    exact rr
/-- .. a truth -/
theorem Cur.runB {γ δ : Type} {relQ : RelR γ δ} {Q : δ → Hp → Prop} {g : Env → Out Bool} {k : Bool → Env → Out γ} (c : Cur K σ o ρ H I F T) (p : Post K W σ o relQ Q ((g ρ).bind k)) {R : Bool → Hp → Prop}
    (h : ∀ b H' ρ' I' F', Cur K σ o ρ' H' I' F' T → Post K W σ o relQ Q (k b ρ') → R b H') : Rd K W rB g σ H R := by
  refine (c.run (rel := rB) p).mono ?_
  rintro v H' ⟨a, ρ', I', F', G, s, r, tm, ⟨e, z⟩, p'⟩
  subst e
  exact h v H' ρ' I' F' ⟨s.eqF fun b => by have := z b; omega, r, tm⟩ p'
/-- what an operand holds -/
theorem Cur.opd (c : Cur K σ o ρ H I F T) {t : Tmp} (h : t ∈ T) {d : D} (e : t.o.get ρ = some d) : ∃ G, Rep K H I t.v d G ∧ ∀ b, G b ≤ F b + tfp T b := by
  have r := c.tm t h
  obtain ⟨v, op, G⟩ := t
  cases op with
  | slot i =>
    have e' : (ρ[i]?).join = some d := e
    have e2 : ρ[i]? = some (some d) := by
      cases q : ρ[i]? with
      | none => rw [q] at e'; cases e'
      | some z => rw [q] at e'; exact congrArg some e'
    obtain ⟨v', G', h1, h2, h3⟩ := c.env.get e2
    obtain ⟨h4, _⟩ := (show σ[i]? = some (some v) ∧ _ from r)
    rw [h1] at h4
    cases h4
    exact ⟨G', h2, fun b => by have := h3 b; omega⟩
  | val d' =>
    have e' : some d' = some d := e
    cases e'
    exact ⟨G, r, fun b => by have := tfp_mem h b; simp only at this; omega⟩
/-- the end: a value without anything that is owned -/
theorem Cur.done {α β : Type} {rel : RelR α β} {Q : β → Hp → Prop} {a : α} {b : β} {G : Fp} (c : Cur K σ o ρ H I F T) (p : Post K W σ o rel Q (.ok a ρ)) (h : rel H I b a G) (hG : ∀ x, F x + G x ≤ F x + tfp T x) : Q b H :=
  p b H I F G (c.st.weak hG) c.env h
end
end DE
/-! # DeC: the short syntax and what it computes -/
namespace DE
open PySem PySem.Spec PyProof.Rows L2

mutual
/-- expressions, names as slots -/
inductive PX where
  | cst (d : D)
  | var (i : Nat)
  | tupD (es : PXs)
  | lstD (es : PXs)
  | dic0
  | bin (op : Operator) (a b : PX)
  | neg (a : PX)
  | cmp (op : CmpOp) (a b : PX)
  | isN (ng : Bool) (a : PX)
  | chn (o1 o2 : CmpOp) (a b c : PX)
  | notE (a : PX)
  | andE (a b : PX)
  | orE (a b : PX)
  | ite (t : QT) (a b : PX)
  | sub (a i : PX)
  | slc (a : PX) (lo hi : QO)
  | rev (a : PX)
  | call (f : Str) (es : PXs) (perm : List Nat)
  | bi (f : String) (es : PXs)
  | isi (a : PX) (t : String)
  | lc (own : List Nat) (tg : QG) (it : QL) (t : Option QT) (e : PX)
  | dc (own : List Nat) (tg : QG) (it : QL) (t : Option QT) (k v : PX)
  | sortK (a : PX) (f : String)
inductive PXs where
  | nil
  | cons (e : PX) (es : PXs)
/-- a slice's part -/
inductive QO where
  | no
  | so (e : PX)
/-- tests -/
inductive QT where
  | tru (a : PX)
  | nt (t : QT)
  | an (a b : QT)
  | or (a b : QT)
/-- targets: names -/
inductive QG where
  | nm (i : Nat)
  | tp (is : List Nat)
/-- what is walked -/
inductive QL where
  | ex (a : PX)
  | rng1 (es : PXs)
  | rng2 (es : PXs)
  | zip (es : PXs)
end
mutual
inductive QS where
  | set (tg : QG) (a : PX)
  | par (is : List Nat) (es : PXs)
  | setI (o : PX) (i a : PX)
  | app (o : PX) (a : PX)
  | exp (a : PX)
  | ifs (t : QT) (a b : QSs)
  | fr (tg : QG) (it : QL) (b : QSs)
  | ret (a : PX)
  | retN
  | never
inductive QSs where
  | nil
  | cons (s : QS) (r : QSs)
end

/-! ### operations on data -/
/-- owned by nobody -/
def shd : D → Bool
  | .lst o _ => !o
  | .dic o _ => !o
  | _ => true
mutual
def share : D → D
  | .lst o xs => if o then .lst false (shares xs) else .lst false xs
  | .dic o kvs => if o then .dic false (shareK kvs) else .dic false kvs
  | d => d
def shares : List D → List D
  | [] => []
  | d :: r => share d :: shares r
def shareK : List (D × D) → List (D × D)
  | [] => []
  | (k, d) :: r => (k, share d) :: shareK r
end
mutual
def toPy : D → PyData
  | .non => .none
  | .bl b => .bool b
  | .int i => .int i
  | .str x => .str x
  | .tup xs => .tuple (toPys xs)
  | .lst _ xs => .list (toPys xs)
  | .frl ns => .list (ns.map .int)
  | .dic _ _ => .none
def toPys : List D → List PyData
  | [] => []
  | d :: r => toPy d :: toPys r
end
/-- may be compared -/
def okEq : Nat → D → Bool
  | _, .non => true
  | _, .bl _ => true
  | _, .int _ => true
  | _, .str x => PyData.canLay0 (.str x)
  | 0, _ => false
  | n + 1, .tup xs => xs.all (okEq n)
  | n + 1, .lst _ xs => xs.all (okEq n)
  | _, _ => false
def eqD (a b : D) : Bool := PyData.eqv (toPy a) (toPy b)
def b2I (b : Bool) : Int := if b then 1 else 0
def sizeOk (n : Nat) : Bool := decide (n ≤ 16777216)

def binD (op : Operator) (a b : D) : Option D :=
  match op, a, b with
  | .Add, .int i, .int j => some (.int (i + j))
  | .Sub, .int i, .int j => some (.int (i - j))
  | .Mult, .int i, .int j => if (-(2 ^ 64) < i ∧ i < 2 ^ 64) ∨ (-(2 ^ 64) < j ∧ j < 2 ^ 64) then some (.int (i * j)) else none
  | .Pow, .int i, .int j => if 0 ≤ j ∧ (Builtin.Int.intBits i : Int) * j ≤ 2 ^ 27 then some (.int (i ^ j.toNat)) else none
  | .Mod, .int i, .int j => if 0 < j then some (.int (i % j)) else none
  | .FloorDiv, .int i, .int j => if 0 < j ∧ j.natAbs.log2 < 9000 then some (.int (i / j)) else none
  | .Add, .tup xs, .tup ys => if sizeOk (xs.length + ys.length) then some (.tup (xs ++ ys)) else none
  | .Add, .lst _ xs, .lst _ ys => if xs.all shd && ys.all shd && sizeOk (xs.length + ys.length) then some (.lst true (xs ++ ys)) else none
  | _, _, _ => none
def keyD (kvs : List (D × D)) (k : D) : Option D := (kvs.find? fun p => eqD p.1 k).map (·.2)
def isKey : D → Bool
  | .int _ => true
  | .str _ => true
  | _ => false
def inD (x y : D) : Option Bool :=
  match y with
  | .tup ys => if okEq 60 x && ys.all (okEq 60) then some (ys.any fun y => eqD y x) else none
  | .lst _ ys => if okEq 60 x && ys.all (okEq 60) then some (ys.any fun y => eqD y x) else none
  | _ => none
def cmpD (op : CmpOp) (a b : D) : Option Bool :=
  match op, a, b with
  | .Lt, .int i, .int j => some (decide (i < j))
  | .LtE, .int i, .int j => some (decide (i ≤ j))
  | .Gt, .int i, .int j => some (decide (j < i))
  | .GtE, .int i, .int j => some (decide (j ≤ i))
  | .Eq, .int i, .int j => some (decide (i = j))
  | .NotEq, .int i, .int j => some (!decide (i = j))
  | .Eq, a, b => if okEq 60 a && okEq 60 b then some (eqD a b) else none
  | .NotEq, a, b => if okEq 60 a && okEq 60 b then some (!eqD a b) else none
  | .In, a, b => inD a b
  | .NotIn, a, b => (inD a b).map (!·)
  | _, _, _ => none
def truD : D → Option Bool
  | .non => some false
  | .bl b => some b
  | .int i => some (i != 0)
  | .tup xs => some (!xs.isEmpty)
  | .lst _ xs => some (!xs.isEmpty)
  | _ => none
def tyD : D → String
  | .non => "NoneType"
  | .bl _ => "bool"
  | .int _ => "int"
  | .str _ => "str"
  | .tup _ => "tuple"
  | .lst _ _ => "list"
  | .frl _ => "list"
  | .dic _ _ => "dict"
/-- isinstance -/
def isiD (a : D) (t : String) : Option Bool :=
  if ["int", "bool", "str", "tuple", "list", "dict"].contains t then some (tyD a == t || (tyD a == "bool" && t == "int")) else none
def ixD (n : Nat) (i : Int) : Option Nat := if 0 ≤ i then (if i < n then some i.toNat else none) else if -(n : Int) ≤ i then some (i + n).toNat else none
def subD (a i : D) : Option D :=
  match a, i with
  | .tup xs, .int i => (ixD xs.length i).bind fun j => xs[j]?
  | .lst _ xs, .int i => (ixD xs.length i).bind fun j => xs[j]?
  | .frl ns, .int i => ((ixD ns.length i).bind fun j => ns[j]?).map .int
  | .dic _ kvs, k => if isKey k then keyD kvs k else none
  | _, _ => none
def sIx (n d : Nat) : Option Int → Nat
  | none => d
  | some v => if v < 0 then (v + (n : Int)).toNat else min v.toNat n
def cutD {α : Type} (xs : List α) (lo hi : Option Int) : List α := (xs.drop (sIx xs.length 0 lo)).take (sIx xs.length xs.length hi - sIx xs.length 0 lo)
def slcD (a : D) (lo hi : Option Int) : Option D :=
  match a with
  | .tup xs => some (.tup (cutD xs lo hi))
  | .lst _ xs => if xs.all shd then some (.lst true (cutD xs lo hi)) else none
  | _ => none
def intsOf : List D → Option (List Int)
  | [] => some []
  | .int i :: r => (intsOf r).map (i :: ·)
  | _ => none
def blsOf : List D → Option (List Bool)
  | [] => some []
  | .bl i :: r => (blsOf r).map (i :: ·)
  | _ => none
def maxI : List Int → Int
  | [] => 0
  | [a] => a
  | a :: b :: r => max a (maxI (b :: r))
def minI : List Int → Int
  | [] => 0
  | [a] => a
  | a :: b :: r => min a (minI (b :: r))
def ins (x : Int) : List Int → List Int
  | [] => [x]
  | y :: r => if x ≤ y then x :: y :: r else y :: ins x r
def isort : List Int → List Int
  | [] => []
  | x :: r => ins x (isort r)
/-- stable, by a key -/
def insBy (f : Int → Int) (x : Int) : List Int → List Int
  | [] => [x]
  | y :: r => if f x ≤ f y then x :: y :: r else y :: insBy f x r
def isortBy (f : Int → Int) : List Int → List Int
  | [] => []
  | x :: r => insBy f x (isortBy f r)
def biD (f : String) (ds : List D) : Option D :=
  match f, ds with
  | "len", [.tup xs] => some (.int xs.length)
  | "len", [.lst _ xs] => some (.int xs.length)
  | "len", [.frl xs] => some (.int xs.length)
  | "len", [.dic _ xs] => some (.int xs.length)
  | "abs", [.int i] => some (.int (if i < 0 then -i else i))
  | "int", [.int i] => some (.int i)
  | "int", [.bl b] => some (.int (b2I b))
  | "max", [.int i, .int j] => some (.int (if j > i then j else i))
  | "min", [.int i, .int j] => some (.int (if j < i then j else i))
  | "max", [.lst _ xs] => if xs.isEmpty then none else (intsOf xs).map fun ns => .int (maxI ns)
  | "min", [.lst _ xs] => if xs.isEmpty then none else (intsOf xs).map fun ns => .int (minI ns)
  | "sum", [.lst _ xs] => (intsOf xs).map fun ns => .int ns.sum
  | "all", [.lst _ xs] => (blsOf xs).map fun bs => .bl (bs.all id)
  | "any", [.lst _ xs] => (blsOf xs).map fun bs => .bl (bs.any id)
  | "list", [.tup xs] => some (.lst true xs)
  | "list", [.lst _ xs] => if xs.all shd then some (.lst true xs) else none
  | "tuple", [.tup xs] => some (.tup xs)
  | "tuple", [.lst _ xs] => if xs.all shd then some (.tup xs) else none
  | "sorted", [.lst _ xs] => (intsOf xs).map fun ns => .lst true ((isort ns).map .int)
  | "sorted", [.dic _ kvs] => if decide (kvs.length < 64) then (intsOf (kvs.map (·.1))).map fun ns => .lst true ((isort ns).map .int) else none
  | _, _ => none
def putD (kvs : List (D × D)) (k v : D) : List (D × D) :=
  if kvs.any (fun p => eqD p.1 k) then kvs.map (fun p => if eqD p.1 k then (p.1, v) else p) else kvs ++ [(k, v)]
def walkD : D → Option (List D)
  | .tup xs => some xs
  | .lst _ xs => some xs
  | _ => none
def rngD (lo hi : Int) : Option (List D) :=
  if -(2 ^ 62) ≤ lo ∧ lo < 2 ^ 62 ∧ -(2 ^ 62) ≤ hi ∧ hi < 2 ^ 62 ∧ hi - lo ≤ 16777216 then some ((List.range (hi - lo).toNat).map fun i => .int (lo + (i : Nat))) else none
def zipD (a b : List D) : List D := (a.zip b).map fun p => .tup [p.1, p.2]

def walk1 : List D → Option (List D)
  | [d] => walkD d
  | _ => none
def rng1D : List D → Option (List D)
  | [.int j] => rngD 0 j
  | _ => none
def rng2D : List D → Option (List D)
  | [.int i, .int j] => rngD i j
  | _ => none
def zip2D : List D → Option (List D)
  | [.tup xs, .tup ys] => some (zipD xs ys)
  | [.lst _ xs, .lst _ ys] => some (zipD xs ys)
  | _ => none
/-! ### the evaluator -/
inductive COut where
  | ok (d : D) (ms : List D)
  | exc (c : Str) (x : D) (ms : List D)
  | stuck
inductive SOut where
  | nx (r : Env)
  | rt (d : D) (r : Env)
  | bk (r : Env)
  | ct (r : Env)
  | exc (c : Str) (x : D) (r : Env)
  | stuck
/-- an own function: its parameters, which of them it may change, the forms of its calls (how many by position, which by name) -/
structure Sig where
  ps : List Str
  ms : List Bool
  pats : List (Nat × List Str)
structure Ctx where
  sig : Str → Option Sig
  call : Str → List D → COut

/-- no exception leaves a block -/
def noX {α : Type} (x : Out α) : Out α :=
  match x with
  | .exc _ _ _ => .stuck
  | y => y
def ofO {α : Type} (x : Option α) (ρ : Env) : Out α :=
  match x with
  | some a => .ok a ρ
  | none => .stuck
def mkOpd (e : PX) (f : Env → Out D) (ρ : Env) : Out Opd :=
  match e with
  | .var i => (match (ρ[i]?).join with
    | some _ => .ok (.slot i) ρ
    | none => .stuck)
  | _ => (f ρ).bind fun d ρ => .ok (.val d) ρ
def getO (x : Opd) (ρ : Env) : Out D := ofO (x.get ρ) ρ
def getsO : List Opd → Env → Option (List D)
  | [], _ => some []
  | x :: r, ρ => match x.get ρ, getsO r ρ with
    | some d, some ds => some (d :: ds)
    | _, _ => none
/-- a name's value read as a value: it is nobody's from now on -/
def readV (i : Nat) (ρ : Env) : Out D :=
  match (ρ[i]?).join with
  | some d => if shd d then .ok d ρ else .ok (share d) (ρ.set i (some (share d)))
  | none => .stuck
/-- the written items of a tuple or a list: shared -/
def shareO : List Opd → Env → Out (List D)
  | [], ρ => .ok [] ρ
  | x :: r, ρ => match x with
    | .val d => (shareO r ρ).bind fun ds ρ => .ok (share d :: ds) ρ
    | .slot i => (readV i ρ).bind fun d ρ => (shareO r ρ).bind fun ds ρ => .ok (d :: ds) ρ
def setAll : List Nat → List D → Env → Option Env
  | [], [], ρ => some ρ
  | i :: is, d :: ds, ρ => if i < ρ.length then setAll is ds (ρ.set i (some d)) else none
  | _, _, _ => none
def asg (g : QG) (d : D) (ρ : Env) : Option Env :=
  match g with
  | .nm i => if i < ρ.length then some (ρ.set i (some d)) else none
  | .tp is => match d with
    | .tup ds => setAll is ds ρ
    | _ => none
def wipeE (ρ : Env) : List Nat → Env
  | [] => ρ
  | v :: vs => (wipeE ρ vs).set v none
/-- behind a block: its own names are what they were -/
def backE (ρ0 : Env) : List Nat → Env → Env
  | [], ρ => ρ
  | v :: vs, ρ => backE ρ0 vs (ρ.set v (ρ0[v]?.join))
def tgSl : QG → List Nat
  | .nm i => [i]
  | .tp is => is
def lcL (own : List Nat) (tg : QG) (ts : Option (Env → Out Bool)) (el : Env → Out D) : List D → List D → Env → Out (List D)
  | [], acc, ρ => .ok acc ρ
  | d :: r, acc, ρ => match asg tg d ρ with
    | none => .stuck
    | some ρ1 => match ts with
      | none => (el ρ1).bind fun x ρ => lcL own tg ts el r (acc ++ [x]) (wipeE ρ own)
      | some t => (t ρ1).bind fun b ρ => if b then (el ρ).bind fun x ρ => lcL own tg ts el r (acc ++ [x]) (wipeE ρ own) else lcL own tg ts el r acc (wipeE ρ own)
def dcL (own : List Nat) (tg : QG) (ts : Option (Env → Out Bool)) (ek ev : Env → Out D) : List D → List (D × D) → Env → Out (List (D × D))
  | [], acc, ρ => .ok acc ρ
  | d :: r, acc, ρ => match asg tg d ρ with
    | none => .stuck
    | some ρ1 => match ts with
      | none => (ek ρ1).bind fun k ρ => (ev ρ).bind fun v ρ => if isKey k && shd v then dcL own tg ts ek ev r (putD acc k v) (wipeE ρ own) else .stuck
      | some t => (t ρ1).bind fun b ρ => if b then (ek ρ).bind fun k ρ => (ev ρ).bind fun v ρ => if isKey k && shd v then dcL own tg ts ek ev r (putD acc k v) (wipeE ρ own) else .stuck else dcL own tg ts ek ev r acc (wipeE ρ own)
/-- the arguments of an own function: shared, but those that it may change -/
def argsO : List Bool → List Opd → Env → Out (List D)
  | [], [], ρ => .ok [] ρ
  | m :: ms, x :: r, ρ => match m, x with
    | false, .val d => (argsO ms r ρ).bind fun ds ρ => .ok (share d :: ds) ρ
    | false, .slot i => (readV i ρ).bind fun d ρ => (argsO ms r ρ).bind fun ds ρ => .ok (d :: ds) ρ
    | true, .slot i => match (ρ[i]?).join with
      | some d => (argsO ms r (ρ.set i none)).bind fun ds ρ => .ok (d :: ds) ρ
      | none => .stuck
    | true, .val _ => .stuck
  | _, _, _ => .stuck
/-- behind the call: the changed ones -/
def backO : List Bool → List Opd → List D → Env → Option Env
  | [], [], [], ρ => some ρ
  | false :: ms, _ :: r, ds, ρ => backO ms r ds ρ
  | true :: ms, .slot i :: r, d :: ds, ρ => backO ms r ds (ρ.set i (some d))
  | _, _, _, _ => none
def permO (xs : List Opd) : List Nat → Option (List Opd)
  | [] => some []
  | i :: r => match xs[i]?, permO xs r with
    | some x, some y => some (x :: y)
    | _, _ => none
def callO (c : Ctx) (f : Str) (perm : List Nat) (xs : List Opd) (ρ : Env) : Out D :=
  match c.sig f, permO xs perm with
  | some g, some xs => (argsO g.ms xs ρ).bind fun ds ρ => match c.call f ds with
    | .ok d ms => (match backO g.ms xs ms ρ with
      | some ρ => .ok d ρ
      | none => .stuck)
    | .exc _ _ _ => .stuck
    | .stuck => .stuck
  | _, _ => .stuck
/-- a place's content looked at: an item that is owned is shared from now on -/
def subO (x y : Opd) (ρ : Env) : Out D :=
  match x.get ρ, y.get ρ with
  | some a, some i => (match subD a i with
    | some d => if shd d then .ok d ρ else .stuck
    | none => .stuck)
  | _, _ => .stuck
def op1 (f : D → Option D) (x : Opd) (ρ : Env) : Out D :=
  match x.get ρ with
  | some d => ofO (f d) ρ
  | none => .stuck
def op2 (f : D → D → Option D) (x y : Opd) (ρ : Env) : Out D :=
  match x.get ρ, y.get ρ with
  | some d, some e => ofO (f d e) ρ
  | _, _ => .stuck
def opN (f : List D → Option D) (xs : List Opd) (ρ : Env) : Out D :=
  match getsO xs ρ with
  | some ds => ofO (f ds) ρ
  | none => .stuck
def opL (f : List D → Option (List D)) (xs : List Opd) (ρ : Env) : Out (List D) :=
  match getsO xs ρ with
  | some ds => ofO (f ds) ρ
  | none => .stuck
def isNO (ng : Bool) (d : D) : Option D := match d with
  | .non => some (.bl (!ng))
  | _ => some (.bl ng)
def bl1 (f : Bool → Out D) (d : D) : Out D := match d with
  | .bl b => f b
  | _ => .stuck
def notD (d : D) : Option D := (truD d).map fun b => .bl (!b)
def negD : D → Option D
  | .int i => some (.int (-i))
  | _ => none
def revD : D → Option D
  | .lst _ xs => if xs.all shd then some (.lst true xs.reverse) else none
  | _ => none
def sortKD (f : String) : D → Option D
  | .lst _ xs => if f = "abs" then (intsOf xs).map fun ns => .lst true ((isortBy (fun i => if i < 0 then -i else i) ns).map .int) else none
  | _ => none
mutual
def ev (c : Ctx) : PX → Env → Out D
  | .cst d, ρ => .ok d ρ
  | .var i, ρ => readV i ρ
  | .tupD es, ρ => (evs c es ρ).bind fun xs ρ => (shareO xs ρ).bind fun ds ρ => if sizeOk ds.length then .ok (.tup ds) ρ else .stuck
  | .lstD es, ρ => (evs c es ρ).bind fun xs ρ => (shareO xs ρ).bind fun ds ρ => if sizeOk ds.length then .ok (.lst true ds) ρ else .stuck
  | .dic0, ρ => .ok (.dic true []) ρ
  | .bin op a b, ρ => (mkOpd a (ev c a) ρ).bind fun x ρ => (mkOpd b (ev c b) ρ).bind fun y ρ => op2 (binD op) x y ρ
  | .neg a, ρ => (mkOpd a (ev c a) ρ).bind fun x ρ => op1 negD x ρ
  | .cmp op a b, ρ => (mkOpd a (ev c a) ρ).bind fun x ρ => (mkOpd b (ev c b) ρ).bind fun y ρ => op2 (fun d e => (cmpD op d e).map .bl) x y ρ
  | .isN ng a, ρ => (mkOpd a (ev c a) ρ).bind fun x ρ => op1 (isNO ng) x ρ
  | .chn o1 o2 a b e, ρ => (mkOpd a (ev c a) ρ).bind fun x ρ => (mkOpd b (ev c b) ρ).bind fun y ρ => (op2 (fun d e => (cmpD o1 d e).map .bl) x y ρ).bind fun d ρ => bl1 (fun k => if k then (mkOpd e (ev c e) ρ).bind fun z ρ => op2 (fun d e => (cmpD o2 d e).map .bl) y z ρ else .ok (.bl false) ρ) d
  | .notE a, ρ => (mkOpd a (ev c a) ρ).bind fun x ρ => op1 notD x ρ
  | .andE a b, ρ => (ev c a ρ).bind fun d ρ => bl1 (fun k => if k then ev c b ρ else .ok (.bl false) ρ) d
  | .orE a b, ρ => (ev c a ρ).bind fun d ρ => bl1 (fun k => if k then .ok (.bl true) ρ else ev c b ρ) d
  | .ite t a b, ρ => (evT c t ρ).bind fun k ρ => if k then ev c a ρ else ev c b ρ
  | .sub a i, ρ => (mkOpd a (ev c a) ρ).bind fun x ρ => (mkOpd i (ev c i) ρ).bind fun y ρ => subO x y ρ
  | .slc a lo hi, ρ => (mkOpd a (ev c a) ρ).bind fun x ρ => (evO c lo ρ).bind fun l ρ => (evO c hi ρ).bind fun h ρ => op1 (fun d => slcD d l h) x ρ
  | .rev a, ρ => (mkOpd a (ev c a) ρ).bind fun x ρ => op1 revD x ρ
  | .call f es perm, ρ => (evs c es ρ).bind fun xs ρ => callO c f perm xs ρ
  | .bi f es, ρ => (evs c es ρ).bind fun xs ρ => opN (biD f) xs ρ
  | .isi a t, ρ => (mkOpd a (ev c a) ρ).bind fun x ρ => op1 (fun d => (isiD d t).map .bl) x ρ
  | .lc own tg it t e, ρ => (evL c it ρ).bind fun ds ρ => (noX (lcL own tg (evTo c t) (ev c e) ds [] (wipeE ρ own))).bind fun xs ρ' => .ok (.lst true xs) (backE ρ own ρ')
  | .dc own tg it t k v, ρ => (evL c it ρ).bind fun ds ρ => (noX (dcL own tg (evTo c t) (ev c k) (ev c v) ds [] (wipeE ρ own))).bind fun xs ρ' => .ok (.dic true xs) (backE ρ own ρ')
  | .sortK a f, ρ => (mkOpd a (ev c a) ρ).bind fun x ρ => op1 (sortKD f) x ρ
def evs (c : Ctx) : PXs → Env → Out (List Opd)
  | .nil, ρ => .ok [] ρ
  | .cons e es, ρ => (mkOpd e (ev c e) ρ).bind fun x ρ => (evs c es ρ).bind fun xs ρ => .ok (x :: xs) ρ
def evO (c : Ctx) : QO → Env → Out (Option Int)
  | .no, ρ => .ok none ρ
  | .so e, ρ => (ev c e ρ).bind fun d ρ => match d with
    | .int i => .ok (some i) ρ
    | _ => .stuck
def evT (c : Ctx) : QT → Env → Out Bool
  | .tru a, ρ => (mkOpd a (ev c a) ρ).bind fun x ρ => match x.get ρ with
    | some d => ofO (truD d) ρ
    | none => .stuck
  | .nt t, ρ => (evT c t ρ).bind fun b ρ => .ok (!b) ρ
  | .an a b, ρ => (evT c a ρ).bind fun k ρ => if k then evT c b ρ else .ok false ρ
  | .or a b, ρ => (evT c a ρ).bind fun k ρ => if k then .ok true ρ else evT c b ρ
def evTo (c : Ctx) : Option QT → Option (Env → Out Bool)
  | none => none
  | some t => some (evT c t)
def evL (c : Ctx) : QL → Env → Out (List D)
  | .ex a, ρ => (mkOpd a (ev c a) ρ).bind fun x ρ => (shareO [x] ρ).bind fun ds ρ => ofO (walk1 ds) ρ
  | .rng1 es, ρ => (evs c es ρ).bind fun xs ρ => opL rng1D xs ρ
  | .rng2 es, ρ => (evs c es ρ).bind fun xs ρ => opL rng2D xs ρ
  | .zip es, ρ => (evs c es ρ).bind fun xs ρ => (shareO xs ρ).bind fun ds ρ => ofO (zip2D ds) ρ
end
def forL (tg : QG) (body : Env → SOut) : List D → Env → SOut
  | [], ρ => .nx ρ
  | d :: r, ρ => match asg tg d ρ with
    | none => .stuck
    | some ρ1 => match body ρ1 with
      | .nx ρ2 => forL tg body r ρ2
      | .ct ρ2 => forL tg body r ρ2
      | .bk ρ2 => .nx ρ2
      | x => x
def Out.toS {α : Type} (x : Out α) (k : α → Env → SOut) : SOut :=
  match x with
  | .ok a r => k a r
  | .exc c x r => .exc c x r
  | .stuck => .stuck
def SOut.seq (x : SOut) (k : Env → SOut) : SOut :=
  match x with
  | .nx r => k r
  | y => y
/-- o[i] = v -/
def setO (x y : Opd) (v : D) (ρ : Env) : SOut :=
  match x with
  | .slot j => (match (ρ[j]?).join, y.get ρ with
    | some (.lst true xs), some (.int i) => (match ixD xs.length i with
      | some n => if xs.all shd then .nx (ρ.set j (some (.lst true (xs.set n (share v))))) else .stuck
      | none => .stuck)
    | some (.dic true kvs), some k => if isKey k && (kvs.all fun p => isKey p.1 && shd p.2) && sizeOk (kvs.length + 1) then .nx (ρ.set j (some (.dic true (putD kvs k (share v))))) else .stuck
    | _, _ => .stuck)
  | _ => .stuck
def isLst (x : Opd) (ρ : Env) : Bool := match x.get ρ with
  | some (.lst _ _) => true
  | _ => false
def appO (x : Opd) (v : D) (ρ : Env) : SOut :=
  match x with
  | .slot j => (match (ρ[j]?).join with
    | some (.lst true xs) => if sizeOk (xs.length + 1) then .nx (ρ.set j (some (.lst true (xs ++ [share v])))) else .stuck
    | _ => .stuck)
  | _ => .stuck
mutual
def ex (c : Ctx) : QS → Env → SOut
  | .set tg a, ρ => (ev c a ρ).toS fun d ρ => match asg tg d ρ with
    | some ρ => .nx ρ
    | none => .stuck
  | .par is es, ρ => (evs c es ρ).toS fun xs ρ => (shareO xs ρ).toS fun ds ρ => match setAll is ds ρ with
    | some ρ => .nx ρ
    | none => .stuck
  | .setI o i a, ρ => (ev c a ρ).toS fun v ρ => (mkOpd o (ev c o) ρ).toS fun x ρ => (mkOpd i (ev c i) ρ).toS fun y ρ => setO x y v ρ
  | .app o a, ρ => (mkOpd o (ev c o) ρ).toS fun x ρ => if isLst x ρ then (ev c a ρ).toS fun v ρ => appO x v ρ else .stuck
  | .exp a, ρ => (ev c a ρ).toS fun _ ρ => .nx ρ
  | .ifs t a b, ρ => (evT c t ρ).toS fun k ρ => if k then exs c a ρ else exs c b ρ
  | .fr tg it b, ρ => (evL c it ρ).toS fun ds ρ => forL tg (exs c b) ds ρ
  | .ret a, ρ => match a with
    | .var i => (match (ρ[i]?).join with
      | some d => .rt d (ρ.set i none)
      | none => .stuck)
    | _ => (ev c a ρ).toS fun d ρ => .rt d ρ
  | .retN, ρ => .rt .non ρ
  | .never, _ => .stuck
def exs (c : Ctx) : QSs → Env → SOut
  | .nil, ρ => .nx ρ
  | .cons s r, ρ => (ex c s ρ).seq (exs c r)
end
structure FnI where
  sig : Sig
  n : Nat
  body : QSs
def outsOf : List Bool → Env → Option (List D)
  | [], _ => some []
  | false :: ms, _ :: r => outsOf ms r
  | true :: ms, some d :: r => (outsOf ms r).map (d :: ·)
  | _, _ => none
def runF (c : Ctx) (f : FnI) (ds : List D) : COut :=
  if ds.length = f.sig.ps.length then
    match exs c f.body (ds.map some ++ List.replicate (f.n - ds.length) none) with
    | .rt d ρ => (match outsOf f.sig.ms ρ with
      | some ms => .ok d ms
      | none => .stuck)
    | .nx ρ => (match outsOf f.sig.ms ρ with
      | some ms => .ok .non ms
      | none => .stuck)
    | .exc n x ρ => (match outsOf f.sig.ms ρ with
      | some ms => .exc n x ms
      | none => .stuck)
    | _ => .stuck
  else .stuck
/-- the functions of a text, k calls one in another at most -/
def callK (tab : Str → Option FnI) : Nat → Str → List D → COut
  | 0, _, _ => .stuck
  | k + 1, f, ds => match tab f with
    | some i => runF ⟨fun g => (tab g).map (·.sig), callK tab k⟩ i ds
    | none => .stuck
end DE
/-! # DeD: the text put into the short syntax -/
namespace DE
open PySem PySem.Spec PyProof.Rows L2

/-- where a piece of text stands: the slots' names, the scope, which cells may be stored to, what functions there are -/
structure Scp where
  N : List Str
  sc : Scope
  fn : Str → Bool
  sig : Str → Option Sig
  fx : List Nat := []

def ixOf : List Str → Str → Option Nat
  | [], _ => none
  | y :: r, x => if y = x then some 0 else (ixOf r x).map (· + 1)
theorem ixOf_get : ∀ {N : List Str} {x : Str} {i : Nat}, ixOf N x = some i → N[i]? = some x
  | [], _, _, h => by cases h
  | y :: r, x, i, h => by
    unfold ixOf at h
    split at h
    · cases h; simpa using ‹y = x›
    · cases e : ixOf r x with
      | none => rw [e] at h; cases h
      | some j => rw [e] at h; cases h; simpa using ixOf_get e
def badName (x : Str) : Bool := x == ("__debug__" : Str) || x == ("__classdict__" : Str) || x == ("__name__" : Str)
def slotOf (s : Scp) (x : Str) : Option Nat :=
  if badName x then none else
  match s.sc.names.lookup x with
  | some .local => ixOf s.N x
  | some .cell => ixOf s.N x
  | some .free => ixOf s.N x
  | _ => none
def storeOf (s : Scp) (x : Str) : Option Nat :=
  if badName x then none else
  match s.sc.names.lookup x with
  | some .local => ixOf s.N x
  | some .cell => if s.fn x then ixOf s.N x else none
  | _ => none
def isGl (s : Scp) (x : Str) : Bool := !badName x && s.sc.names.lookup x == some .globalImplicit

def isStar : Expr → Bool
  | .Starred _ _ => true
  | _ => false
def isComp : Expr → Bool
  | .ListComp .. => true
  | .SetComp .. => true
  | .DictComp .. => true
  | _ => false
def isSlice : Expr → Bool
  | .Slice .. => true
  | _ => false
def isSetD : Expr → Bool
  | .Set .. => true
  | _ => false
def cOf : Const → Option D
  | .none => some .non
  | .bool b => some (.bl b)
  | .int i => some (.int i)
  | .str x => some (.str x)
  | _ => none
def nameE : Expr → Option Str
  | .Name x _ => some x
  | _ => none
def slotsS (s : Scp) : List Expr → Option (List Nat)
  | [] => some []
  | .Name x _ :: r => (match storeOf s x, slotsS s r with
    | some i, some is => some (i :: is)
    | _, _ => none)
  | _ => none
def tgOf (s : Scp) : Expr → Option QG
  | .Name x _ => (storeOf s x).map .nm
  | .Tuple es _ _ => (slotsS s es).map .tp
  | _ => none
/-- the names that a target binds -/
def tgNames : Expr → List Str
  | .Name x _ => [x]
  | .Tuple es _ _ => es.filterMap nameE
  | _ => []
def isTup : Expr → Bool
  | .Tuple .. => true
  | _ => false
def permOf (n : Nat) (ks : List Str) : List Str → Nat → Option (List Nat)
  | [], _ => some []
  | p :: ps, i => if i < n then (permOf n ks ps (i + 1)).map (i :: ·) else
    match ixOf ks p, permOf n ks ps (i + 1) with
    | some j, some r => some ((n + j) :: r)
    | _, _ => none
def kwNames : List Keyword → Option (List Str)
  | [] => some []
  | ⟨some k, _, _⟩ :: r => (kwNames r).map (k :: ·)
  | _ => none
def binOk : Operator → Bool
  | .Add => true
  | .Sub => true
  | .Mult => true
  | .Pow => true
  | .Mod => true
  | .FloorDiv => true
  | _ => false
def cmpOk : CmpOp → Bool
  | .Is => false
  | .IsNot => false
  | _ => true
def biTab : List (Str × String × List Nat) := [("len", "len", [1]), ("abs", "abs", [1]), ("int", "int", [1]), ("max", "max", [1, 2]), ("min", "min", [1, 2]), ("sum", "sum", [1]), ("all", "all", [1]), ("any", "any", [1]), ("list", "list", [1]), ("tuple", "tuple", [1]), ("sorted", "sorted", [1])]
def biOk (f : Str) (n : Nat) : Option String := (biTab.find? fun t => decide (t.1 = f) && t.2.2.contains n).map (·.2.1)
def tyTab : List (Str × String) := [("int", "int"), ("bool", "bool"), ("str", "str"), ("tuple", "tuple"), ("list", "list"), ("dict", "dict")]
def tyOk (s : Scp) : Expr → Option String
  | .Name x _ => if isGl s x then (tyTab.find? fun t => decide (t.1 = x)).map (·.2) else none
  | _ => none
def noneE : Expr → Bool
  | .Constant .none _ _ => true
  | _ => false
def minusOne : Expr → Bool
  | .UnaryOp .USub (.Constant (.int 1) _ _) _ => true
  | _ => false
/-- where a comprehension's block stands -/
def Scp.blk (s : Scp) (scope : Scope) : Scp := ⟨s.N, relS scope s.sc, fun x => scope.names.lookup x == some .cell, s.sig, []⟩
def ownOf (s : Scp) (tg : Expr) : Option (List (Str × Nat)) := (tgNames tg).mapM fun x => (ixOf s.N x).map fun i => (x, i)
def ownOk (own : List (Str × Nat)) : Bool := decide (own.map (·.2)).Nodup
def exprs (f : Expr → Option PX) : List Expr → Option PXs
  | [] => some .nil
  | e :: r => if isStar e then none else match f e, exprs f r with
    | some p, some q => some (.cons p q)
    | _, _ => none
def kwExprs (f : Expr → Option PX) : List Keyword → Option PXs
  | [] => some .nil
  | ⟨_, e, _⟩ :: r => match f e, kwExprs f r with
    | some p, some q => some (.cons p q)
    | _, _ => none
def PXs.app : PXs → PXs → PXs
  | .nil, q => q
  | .cons p r, q => .cons p (r.app q)
def PXs.len : PXs → Nat
  | .nil => 0
  | .cons _ r => r.len + 1
mutual
def trE (s : Scp) : Nat → Expr → Option PX
  | 0, _ => none
  | n + 1, .Constant c _ _ => (cOf c).map .cst
  | n + 1, .Name x _ => (slotOf s x).map .var
  | n + 1, .Tuple es _ _ => (exprs (trE s n) es).map .tupD
  | n + 1, .List es _ => (exprs (trE s n) es).map .lstD
  | n + 1, .Dict ks vs _ => if ks.isEmpty && vs.isEmpty then some .dic0 else none
  | n + 1, .BinOp a op b _ => if binOk op then (match trE s n a, trE s n b with
    | some p, some q => some (.bin op p q)
    | _, _ => none) else none
  | n + 1, .UnaryOp .USub a _ => (trE s n a).map .neg
  | n + 1, .UnaryOp .Not a _ => (trE s n a).map .notE
  | n + 1, .Compare a [.Is] [b] _ => if noneE b then (trE s n a).map (.isN false) else none
  | n + 1, .Compare a [.IsNot] [b] _ => if noneE b then (trE s n a).map (.isN true) else none
  | n + 1, .Compare a [op] [b] _ => if cmpOk op && !isSetD b then (match trE s n a, trE s n b with
    | some p, some q => some (.cmp op p q)
    | _, _ => none) else none
  | n + 1, .Compare a [o1, o2] [b, c] _ => if cmpOk o1 && cmpOk o2 && !isSetD b && !isSetD c then (match trE s n a, trE s n b, trE s n c with
    | some p, some q, some r => some (.chn o1 o2 p q r)
    | _, _, _ => none) else none
  | n + 1, .BoolOp op [a] _ => trE s n a
  | n + 1, .BoolOp .And (a :: b :: r) pos => (match trE s n a, trE s n (.BoolOp .And (b :: r) pos) with
    | some p, some q => some (.andE p q)
    | _, _ => none)
  | n + 1, .BoolOp .Or (a :: b :: r) pos => (match trE s n a, trE s n (.BoolOp .Or (b :: r) pos) with
    | some p, some q => some (.orE p q)
    | _, _ => none)
  | n + 1, .IfExp t a b _ => (match trT s n t, trE s n a, trE s n b with
    | some p, some q, some r => some (.ite p q r)
    | _, _, _ => none)
  | n + 1, .Subscript a (.Slice lo hi none _) _ => (match trE s n a, trO s n lo, trO s n hi with
    | some p, some q, some r => some (.slc p q r)
    | _, _, _ => none)
  | n + 1, .Subscript a (.Slice none none (some e) _) _ => if minusOne e then (trE s n a).map .rev else none
  | n + 1, .Subscript a b _ => if isSlice b then none else (match trE s n a, trE s n b with
    | some p, some q => some (.sub p q)
    | _, _ => none)
  | n + 1, .Call (.Name f _) es kws _ => if !isGl s f then none else
    match s.sig f with
    | some g => (match kwNames kws with
      | some ks => if g.pats.contains (es.length, ks) then (match permOf es.length ks g.ps 0, exprs (trE s n) es, kwExprs (trE s n) kws with
        | some perm, some p, some q => if perm.isPerm (List.range (es.length + ks.length)) then some (.call f (p.app q) perm) else none
        | _, _, _ => none) else none
      | none => none)
    | none => match es, kws with
      | [a, t], [] => if f = "isinstance" then (match trE s n a, tyOk s t with
          | some p, some t => some (.isi p t)
          | _, _ => none) else (match biOk f 2, exprs (trE s n) es with
          | some g, some p => some (.bi g p)
          | _, _ => none)
      | [a], [⟨some k, .Name g _, _⟩] => if f = "sorted" ∧ k = "key" ∧ g = "abs" ∧ isGl s g then (trE s n a).map fun p => .sortK p "abs" else none
      | _, [] => (match biOk f es.length, exprs (trE s n) es with
        | some g, some p => some (.bi g p)
        | _, _ => none)
      | _, _ => none
  | n + 1, .ListComp e [⟨tg, it, ifs, 0⟩] scope _ => (match ownOf s tg with
    | some own => if blkC s.N s.sc scope own && ownOk own then (match tgOf (s.blk scope) tg, trL s n tg it, trE (s.blk scope) n e with
      | some g, some l, some p => if !(tgSl g).all (own.map (·.2)).contains then none else (match ifs with
        | [] => some (.lc (own.map (·.2)) g l none p)
        | [t] => (trT (s.blk scope) n t).map fun t => .lc (own.map (·.2)) g l (some t) p
        | _ => none)
      | _, _, _ => none) else none
    | none => none)
  | n + 1, .DictComp k v [⟨tg, it, ifs, 0⟩] scope _ => (match ownOf s tg with
    | some own => if blkC s.N s.sc scope own && ownOk own then (match tgOf (s.blk scope) tg, trL s n tg it, trE (s.blk scope) n k, trE (s.blk scope) n v with
      | some g, some l, some p, some q => if !(tgSl g).all (own.map (·.2)).contains then none else (match ifs with
        | [] => some (.dc (own.map (·.2)) g l none p q)
        | [t] => (trT (s.blk scope) n t).map fun t => .dc (own.map (·.2)) g l (some t) p q
        | _ => none)
      | _, _, _, _ => none) else none
    | none => none)
  | _, _ => none
def trO (s : Scp) : Nat → Option Expr → Option QO
  | _, none => some .no
  | 0, _ => none
  | n + 1, some e => (trE s n e).map .so
def trT (s : Scp) : Nat → Expr → Option QT
  | 0, _ => none
  | n + 1, .UnaryOp .Not a _ => (trT s n a).map .nt
  | n + 1, .BoolOp op [a] _ => trT s n a
  | n + 1, .BoolOp .And (a :: b :: r) pos => (match trT s n a, trT s n (.BoolOp .And (b :: r) pos) with
    | some p, some q => some (.an p q)
    | _, _ => none)
  | n + 1, .BoolOp .Or (a :: b :: r) pos => (match trT s n a, trT s n (.BoolOp .Or (b :: r) pos) with
    | some p, some q => some (.or p q)
    | _, _ => none)
  | n + 1, .IfExp _ _ _ _ => none
  | n + 1, e => (trE s n e).map .tru
def trL (s : Scp) : Nat → Expr → Expr → Option QL
  | 0, _, _ => none
  | n + 1, tg, e => if isSetD e then none else match e with
    | .Call (.Name f _) [a] [] _ => if f = "range" ∧ isGl s f ∧ s.sig f = none ∧ !isStar a then (trE s n a).map fun p => .rng1 (.cons p .nil) else (trE s n e).map .ex
    | .Call (.Name f _) [a, b] [] _ => if f = "range" ∧ isGl s f ∧ s.sig f = none ∧ !isStar a ∧ !isStar b then (match trE s n a, trE s n b with
        | some p, some q => some (.rng2 (.cons p (.cons q .nil)))
        | _, _ => none)
      else if f = "zip" ∧ isGl s f ∧ s.sig f = none ∧ !isStar a ∧ !isStar b ∧ isTup tg then (match trE s n a, trE s n b with
        | some p, some q => some (.zip (.cons p (.cons q .nil)))
        | _, _ => none)
      else (trE s n e).map .ex
    | _ => (trE s n e).map .ex
end
/-- the slots that a statement stores to are no changed parameter's -/
def fxOk (s : Scp) (g : QG) : Bool := (tgSl g).all fun i => !s.fx.contains i
/-- a, b = x, y: whether the stores are swapped is told by the text where a name is no local -/
def someCell (s : Scp) (ts : List Expr) : Bool := ts.any fun t => match nameE t with
  | some x => s.sc.names.lookup x != some .local
  | none => true
mutual
def trS (s : Scp) : Nat → Stmt → Option QS
  | 0, _ => none
  | n + 1, .Assign [.Name x p] e _ => (match storeOf s x, trE s n e with
    | some i, some q => if fxOk s (.nm i) then some (.set (.nm i) q) else none
    | _, _ => none)
  | n + 1, .Assign [.Tuple ts k p] (.Tuple es k2 p2) _ => if someCell s ts then (match tgOf s (.Tuple ts k p), trE s n (.Tuple es k2 p2) with
      | some g, some q => if fxOk s g then some (.set g q) else none
      | _, _ => none)
    else none
  | n + 1, .Assign [.Tuple ts k p] e _ => if isComp e || isTup e then none else (match tgOf s (.Tuple ts k p), trE s n e with
    | some g, some q => if fxOk s g then some (.set g q) else none
    | _, _ => none)
  | n + 1, .Assign [.Subscript (.Name o p1) i p2] e _ => if isSlice i || isComp e then none else (match trE s n (.Name o p1), trE s n i, trE s n e with
    | some x, some y, some z => some (.setI x y z)
    | _, _, _ => none)
  | n + 1, .Expr (.Call (.Attribute (.Name o p1) m p2) [a] [] p3) _ => if m = "append" ∧ !isStar a ∧ (p2.endLine == p3.line) then (match trE s n (.Name o p1), trE s n a with
      | some x, some y => some (.app x y)
      | _, _ => none) else none
  | n + 1, .Expr e _ => if isComp e then none else (trE s n e).map .exp
  | n + 1, .If t a b _ => (match trT s n t, trSs s n a, trSs s n b with
    | some p, some q, some r => some (.ifs p q r)
    | _, _, _ => none)
  | n + 1, .For tg it b [] _ => (match tgOf s tg, trL s n tg it, trSs s n b with
    | some g, some l, some q => if fxOk s g then some (.fr g l q) else none
    | _, _, _ => none)
  | n + 1, .Return none _ => some .retN
  | n + 1, .Return (some e) _ => (trE s n e).map .ret
  | n + 1, .Raise _ _ _ => some .never
  | _, _ => none
def trSs (s : Scp) : Nat → List Stmt → Option QSs
  | _, [] => some .nil
  | 0, _ => none
  | n + 1, t :: r => (match trS s n t, trSs s n r with
    | some p, some q => some (.cons p q)
    | _, _ => none)
end
end DE
/-! # DeE: operations, by values -/
namespace DE
open PySem PySem.Spec PyProof.Rows L2

theorem _root_.L2.PE.imp {X : Cx} {e : Expr} {t t' : TE} (h : PE X e t) (w : ∀ σ H Q, t' σ H Q → t σ H Q) : PE X e t' := ⟨fun pins s σ H Q I q => h.run pins s σ H Q I (w _ _ _ q)⟩
theorem _root_.L2.PT.imp {X : Cx} {e : Expr} {t t' : TT} (h : L2.PT X e t) (w : ∀ σ H Q, t' σ H Q → t σ H Q) : L2.PT X e t' := ⟨fun pins s σ H Q I q => h.run pins s σ H Q I (w _ _ _ q)⟩
theorem _root_.L2.PS.imp {X : Cx} {st : Stmt} {t t' : TS} (h : L2.PS X st t) (w : ∀ D σ H, t' D σ H → t D σ H) : L2.PS X st t' := ⟨fun pins s σ H D I q => h.run pins s σ H D I (w _ _ _ q)⟩
theorem _root_.L2.PSs.imp {X : Cx} {st : List Stmt} {t t' : TS} (h : L2.PSs X st t) (w : ∀ D σ H, t' D σ H → t D σ H) : L2.PSs X st t' := ⟨fun pins s σ H D I q => h.run pins s σ H D I (w _ _ _ q)⟩
theorem _root_.L2.PI.imp {X : Cx} {tg it : Expr} {t t' : TI} (h : PI X tg it t) (w : ∀ σ H R, t' σ H R → t σ H R) : PI X tg it t' := ⟨fun pins s σ H R I q => h.run pins s σ H R I (w _ _ _ q)⟩

theorem sizeLine_lit : sizeLine = 16777216 := sizeLine_eq
theorem sizeOk_le {n : Nat} (h : sizeOk n = true) : n ≤ sizeLine := by rw [sizeLine_lit]; exact of_decide_eq_true h

section
variable {F : Fp} {H : Hp} {I : AP} {p : Addr} {o : HO}
theorem Step.newTup {vs : List V} (g : Good F H I) (hp : H p = none) : Step F H I F (upd H p (.tup vs)) (fun b => I b ∨ b = p) := by
  refine ⟨fun b h => .inl h, fun b o h _ => by rw [upd_ne (ne_of_none h hp)]; exact h, fun b h => h.elim .inl fun e => .inr (.inr (by rw [e]; exact hp)), fun b h => .inl h, ⟨g.one, fun b h => ⟨fun z => ?_, fun z => ?_⟩, fun b h => ?_⟩⟩
  · rcases z with z | z
    · exact (g.own b h).1 z
    · subst z; exact (g.own b h).2 hp
  · by_cases e : b = p
    · subst e; exact (g.own b h).2 hp
    · rw [upd_ne e] at z; exact (g.own b h).2 z
  · rcases h with h | h
    · by_cases e : b = p
      · subst e; rw [upd_same]; simp
      · rw [upd_ne e]; exact g.imm b h
    · subst h; rw [upd_same]; simp
theorem Step.newObj (g : Good F H I) (hp : H p = none) : Step F H I (fun b => F b + sing p b) (upd H p o) I := by
  have fp0 : F p = 0 := by
    by_cases h : F p = 0
    · exact h
    · exact absurd hp (g.own p h).2
  refine ⟨fun b h => h, fun b o h _ => by rw [upd_ne (ne_of_none h hp)]; exact h, fun b h => .inl h, fun b h => ?_, ⟨fun b => ?_, fun b h => ?_, fun b h => ?_⟩⟩
  · by_cases e : b = p
    · subst e; exact .inr hp
    · exact .inl (by rw [sing_ne e] at h; simpa using h)
  · by_cases e : b = p
    · subst e; rw [sing_self, fp0]; omega
    · have := g.one b; rw [sing_ne e]; simpa using this
  · by_cases e : b = p
    · subst e
      exact ⟨fun z => g.imm b z hp, by rw [upd_same]; simp⟩
    · have h' : F b ≠ 0 := by rw [sing_ne e] at h; simpa using h
      exact ⟨(g.own b h').1, by rw [upd_ne e]; exact (g.own b h').2⟩
  · by_cases e : b = p
    · subst e; exact absurd hp (g.imm b h)
    · rw [upd_ne e]; exact g.imm b h
end

section
variable {K : PySem.W.Frag} {H H' : Hp} {I I' : AP}
theorem Rep.zero {v : V} {d : D} {F G : Fp} (r : Rep K H I v d F) (h : ∀ b, F b = 0) : Rep K H I v d (fun _ => 0) := r.eqF fun b => (h b).symm
/-- what is shared owns nothing -/
theorem Rep.shd0 {v : V} {d : D} {F : Fp} (r : Rep K H I v d F) (h : shd d = true) : ∀ b, F b = 0 := by
  cases r with
  | non hF => exact hF
  | bl x hF => exact hF
  | int x hF => exact hF
  | str x hF => exact hF
  | tup a1 a2 a3 a4 a5 hF => exact hF
  | tupK a2 a3 a4 a5 hF => exact hF
  | lstS a1 a2 a3 a4 a5 hF => exact hF
  | lstO a1 a2 a3 hF => cases h
  | frl a2 a3 hF => exact hF
  | dKS a1 a2 a3 a4 a5 hF => exact hF
  | dKO a1 a2 a3 hF => cases h
  | dTS a1 a2 an a3 a4 a5 hF => exact hF
  | dTO a1 an a2 a3 hF => cases h
theorem Reps.shd0 : ∀ {vs : List V} {ds : List D} {F : Fp}, Reps K H I vs ds F → ds.all shd = true → ∀ b, F b = 0
  | _, _, _, .nil hF, _, b => hF b
  | _, _, _, .cons h t hF, a, b => by
    rw [List.all_cons, Bool.and_eq_true] at a
    rw [hF b, h.shd0 a.1 b, Reps.shd0 t a.2 b]
/-- .. and the other way about -/
theorem Rep.shd_of0 {v : V} {d : D} {F : Fp} (r : Rep K H I v d F) (h : ∀ b, F b = 0) : shd d = true := by
  cases r with
  | lstO a1 a2 a3 hF => rename_i a _ _; have := hF a; rw [h a, sing_self] at this; omega
  | dKO a1 a2 a3 hF => rename_i a _ _; have := hF a; rw [h a, sing_self] at this; omega
  | dTO a1 an a2 a3 hF => rename_i a _ _; have := hF a; rw [h a, sing_self] at this; omega
  | _ => rfl
theorem Reps.shd_of0 : ∀ {vs : List V} {ds : List D} {F : Fp}, Reps K H I vs ds F → (∀ b, F b = 0) → ds.all shd = true
  | _, _, _, .nil hF, _ => rfl
  | _, _, _, .cons h t hF, z => by
    rw [List.all_cons, Bool.and_eq_true]
    exact ⟨h.shd_of0 fun b => by have := hF b; rw [z b] at this; omega, Reps.shd_of0 t fun b => by have := hF b; rw [z b] at this; omega⟩
theorem Reps.append : ∀ {vs ws : List V} {ds es : List D} {F G : Fp}, Reps K H I vs ds F → Reps K H I ws es G → Reps K H I (vs ++ ws) (ds ++ es) (fun b => F b + G b)
  | _, _, _, _, _, _, .nil hF, r => r.eqF fun b => by rw [hF b]; omega
  | _, _, _, _, _, _, .cons h t hF, r => .cons h (Reps.append t r) fun b => by rw [hF b]; omega
theorem Reps.get : ∀ {vs : List V} {ds : List D} {F : Fp} {i : Nat} {d : D}, Reps K H I vs ds F → ds[i]? = some d → ∃ v G, vs[i]? = some v ∧ Rep K H I v d G ∧ ∀ b, G b ≤ F b
  | _, _, _, _, _, .nil _, e => by simp at e
  | _, _, _, 0, _, .cons h t hF, e => by
    simp at e; subst e
    exact ⟨_, _, rfl, h, fun b => by rw [hF b]; omega⟩
  | _, _, _, i + 1, _, .cons h t hF, e => by
    obtain ⟨v, G, h1, h2, h3⟩ := Reps.get (i := i) t (by simpa using e)
    exact ⟨v, G, by simpa using h1, h2, fun b => by rw [hF b]; have := h3 b; omega⟩
theorem Reps.take : ∀ {vs : List V} {ds : List D} {F : Fp} (n : Nat), Reps K H I vs ds F → (∀ b, F b = 0) → Reps K H I (vs.take n) (ds.take n) F
  | _, _, _, 0, r, z => .nil z
  | _, _, _, _ + 1, .nil hF, z => .nil hF
  | _, _, _, n + 1, .cons h t hF, z => .cons h (Reps.take n t fun b => by have := hF b; rw [z b] at this; omega) hF
theorem Reps.drop : ∀ {vs : List V} {ds : List D} {F : Fp} (n : Nat), Reps K H I vs ds F → (∀ b, F b = 0) → Reps K H I (vs.drop n) (ds.drop n) F
  | _, _, _, 0, r, z => r
  | _, _, _, _ + 1, .nil hF, z => .nil hF
  | _, _, _, n + 1, .cons h t hF, z => (Reps.drop n t fun b => by have := hF b; rw [z b] at this; omega).eqF fun b => by have := hF b; rw [z b] at this ⊢; omega
theorem Reps.reverse {vs : List V} {ds : List D} {F : Fp} (r : Reps K H I vs ds F) : Reps K H I vs.reverse ds.reverse F := by
  induction vs generalizing ds F with
  | nil => cases r; exact .nil (by assumption)
  | cons v vs ih =>
    cases r with
    | cons h t hF =>
      rw [List.reverse_cons, List.reverse_cons]
      exact ((ih t).append (.cons (F := fun b => _) h (.nil (F := fun _ => 0) fun _ => rfl) fun b => rfl)).eqF fun b => by rw [hF b]; omega
theorem Reps.set : ∀ {vs : List V} {ds : List D} {F G : Fp} {v : V} {d : D} (n : Nat), Reps K H I vs ds F → Rep K H I v d G → (∀ b, F b = 0) → (∀ b, G b = 0) → Reps K H I (vs.set n v) (ds.set n d) F
  | _, _, _, _, _, _, _, .nil hF, _, _, _ => .nil hF
  | _, _, _, _, _, _, 0, .cons h t hF, r, z, y => .cons r t fun b => by have := hF b; rw [z b] at this ⊢; rw [y b]; omega
  | _, _, _, _, _, _, n + 1, .cons h t hF, r, z, y => .cons h (Reps.set n t r (fun b => by have := hF b; rw [z b] at this; omega) y) hF
/-- a tuple's reading -/
theorem Rep.tupR {v : V} {ds : List D} {F : Fp} (r : Rep K H I v (.tup ds) F) : ∃ a vs, v = .ref a ∧ SqT K H a vs ∧ vs.length ≤ sizeLine ∧ Reps K H I vs ds (fun _ => 0) := by
  cases r with
  | tup a1 a2 a3 a4 a5 hF => exact ⟨_, _, rfl, .inl (.inl a2), a3, a4.eqF fun b => (a5 b).symm⟩
  | tupK a2 a3 a4 a5 hF => exact ⟨_, _, rfl, .inr a2, a3, a4.eqF fun b => (a5 b).symm⟩
/-- a list's reading -/
theorem Rep.lstR {v : V} {o : Bool} {ds : List D} {F : Fp} (r : Rep K H I v (.lst o ds) F) : ∃ a vs G, v = .ref a ∧ H a = some (.lst vs) ∧ vs.length ≤ sizeLine ∧ Reps K H I vs ds G ∧ (∀ b, G b ≤ F b) := by
  cases r with
  | lstS a1 a2 a3 a4 a5 hF => exact ⟨_, _, _, rfl, a2, a3, a4, fun b => by rw [a5 b]; omega⟩
  | lstO a1 a2 a3 hF => exact ⟨_, _, _, rfl, a1, a2, a3, fun b => by rw [hF b]; omega⟩
end

/-- what follows an operation that gives d and changes nothing that is there -/
def Aft (K : PySem.W.Frag) (Fa : Fp) (H : Hp) (I : AP) (d : D) (Q : VK) : Prop :=
  ∀ v H' I' G, (∀ b o, H b = some o → H' b = some o) → Step Fa H I (fun b => Fa b + G b) H' I' → Rep K H' I' v d G → Q v H'
theorem same_upd {H : Hp} {p : Addr} {o : HO} (hp : H p = none) : ∀ b u, H b = some u → upd H p o b = some u := fun b u h => by rw [upd_ne (ne_of_none h hp)]; exact h
section
variable {K : PySem.W.Frag} {Fa : Fp} {H : Hp} {I : AP} {Q : VK}
theorem Aft.same {d : D} {v : V} (a : Aft K Fa H I d Q) (g : Good Fa H I) (r : Rep K H I v d (fun _ => 0)) : Q v H := a v H I _ (fun _ _ h => h) ((Step.refl g).eqF fun b => by omega) r
theorem Aft.int {i : Int} (a : Aft K Fa H I (.int i) Q) (g : Good Fa H I) : Q (.int i) H := a.same g (.int i fun _ => rfl)
theorem Aft.bl {i : Bool} (a : Aft K Fa H I (.bl i) Q) (g : Good Fa H I) : Q (.bl i) H := a.same g (.bl i fun _ => rfl)
theorem Aft.tup {ds : List D} {vs : List V} (a : Aft K Fa H I (.tup ds) Q) (g : Good Fa H I) (hz : vs.length ≤ sizeLine) (r : Reps K H I vs ds (fun _ => 0)) (p : Addr) (hp : H p = none) : Q (.ref p) (upd H p (.tup vs)) := by
  have s := Step.newTup (vs := vs) g hp
  refine a _ _ _ (fun _ => 0) (same_upd hp) (s.eqF fun b => by omega) (.tup (.inr rfl) upd_same hz (r.step s (g.mono fun b => by omega)) (fun _ => rfl) fun _ => rfl)
theorem Aft.lst {ds : List D} {vs : List V} (a : Aft K Fa H I (.lst true ds) Q) (g : Good Fa H I) (hz : vs.length ≤ sizeLine) (r : Reps K H I vs ds (fun _ => 0)) (p : Addr) (hp : H p = none) : Q (.ref p) (upd H p (.lst vs)) := by
  have s := Step.newObj (o := .lst vs) g hp
  refine a _ _ _ (sing p) (same_upd hp) s (.lstO upd_same hz (r.step (Step.newObj (o := .lst vs) g hp) (g.mono fun b => by omega)) fun b => by omega)
end

/-! ### from the state to an operation -/
section
variable {K : PySem.W.Frag} {W : WishX} {σ : L2.St} {o : Org} {ρ : Env} {H : Hp} {I : AP} {F : Fp} {T : List Tmp} {Q : VK}
theorem Cur.aft {d : D} (c : Cur K σ o ρ H I F T) (p : Post K W σ o (rD K σ) Q (.ok d ρ)) : Aft K (fun b => F b + tfp T b) H I d Q := by
  intro v H' I' G k s r
  exact p v H' I' F G ((c.st.trans s).weak fun b => by dsimp only; omega) (c.env.mono s.mono fun b o _ e => k b o e) r
theorem Cur.op1 {f : D → Option D} {x : Tmp} (c : Cur K σ o ρ H I F T) (hx : x ∈ T) (p : Post K W σ o (rD K σ) Q (op1 f x.o ρ)) :
    ∃ d e G, Rep K H I x.v d G ∧ (∀ b, G b ≤ F b + tfp T b) ∧ f d = some e ∧ Aft K (fun b => F b + tfp T b) H I e Q := by
  unfold DE.op1 at p
  cases e : x.o.get ρ with
  | none => rw [e] at p; exact False.elim p
  | some d =>
    rw [e] at p
    obtain ⟨G, r, hG⟩ := c.opd hx e
    cases q : f d with
    | none => simp only [ofO, q] at p; exact False.elim p
    | some y => simp only [ofO, q] at p; exact ⟨d, y, G, r, hG, q, c.aft p⟩
theorem Cur.op2 {f : D → D → Option D} {x y : Tmp} (c : Cur K σ o ρ H I F T) (hx : x ∈ T) (hy : y ∈ T) (p : Post K W σ o (rD K σ) Q (op2 f x.o y.o ρ)) :
    ∃ d e z G G', Rep K H I x.v d G ∧ Rep K H I y.v e G' ∧ (∀ b, G b ≤ F b + tfp T b) ∧ (∀ b, G' b ≤ F b + tfp T b) ∧ f d e = some z ∧ Aft K (fun b => F b + tfp T b) H I z Q := by
  unfold DE.op2 at p
  cases e : x.o.get ρ with
  | none => rw [e] at p; exact False.elim p
  | some d =>
    cases e2 : y.o.get ρ with
    | none => rw [e, e2] at p; exact False.elim p
    | some d2 =>
      rw [e, e2] at p
      obtain ⟨G, r, hG⟩ := c.opd hx e
      obtain ⟨G', r', hG'⟩ := c.opd hy e2
      cases q : f d d2 with
      | none => simp only [ofO, q] at p; exact False.elim p
      | some z => simp only [ofO, q] at p; exact ⟨d, d2, z, G, G', r, r', hG, hG', q, c.aft p⟩
/-- the values of several operands -/
theorem Cur.opN {f : List D → Option D} {xs : List Opd} {vs : List V} (c : Cur K σ o ρ H I F T) (hx : Paired (fun (v : V) (x : Opd) => ∃ t ∈ T, t.v = v ∧ t.o = x) vs xs) (p : Post K W σ o (rD K σ) Q (opN f xs ρ)) :
    ∃ ds z, Paired (fun (v : V) (d : D) => ∃ G, Rep K H I v d G ∧ ∀ b, G b ≤ F b + tfp T b) vs ds ∧ f ds = some z ∧ Aft K (fun b => F b + tfp T b) H I z Q := by
  have aux : ∀ {xs : List Opd} {vs : List V}, Paired (fun (v : V) (x : Opd) => ∃ t ∈ T, t.v = v ∧ t.o = x) vs xs → ∀ ds, getsO xs ρ = some ds → Paired (fun (v : V) (d : D) => ∃ G, Rep K H I v d G ∧ ∀ b, G b ≤ F b + tfp T b) vs ds := by
    intro xs vs h
    induction h with
    | nil => intro ds e; cases e; exact .nil
    | @cons v x vs xs hd tl ih =>
      intro ds e
      obtain ⟨t, ht, rfl, rfl⟩ := hd
      unfold getsO at e
      cases e1 : t.o.get ρ with
      | none => rw [e1] at e; cases e
      | some d =>
        cases e2 : getsO xs ρ with
        | none => rw [e1, e2] at e; cases e
        | some r =>
          rw [e1, e2] at e
          cases e
          exact .cons (c.opd ht e1) (ih r e2)
  unfold DE.opN at p
  cases e : getsO xs ρ with
  | none => rw [e] at p; exact False.elim p
  | some ds =>
    rw [e] at p
    cases q : f ds with
    | none => simp only [ofO, q] at p; exact False.elim p
    | some z => simp only [ofO, q] at p; exact ⟨ds, z, aux hx ds e, q, c.aft p⟩
end
end DE
/-! # DeF: operators -/
namespace DE
open PySem PySem.Spec PyProof.Rows L2

section
variable {K : PySem.W.Frag} {H : Hp} {I : AP}
theorem toPys_map (xs : List D) : toPys xs = xs.map toPy := by
  induction xs with
  | nil => rfl
  | cons x r ih => show toPy x :: toPys r = _; rw [ih]; rfl
theorem depthAll_le {n : Nat} : ∀ {ds : List D}, (∀ d ∈ ds, (toPy d).depth ≤ n) → PyData.depthAll (toPys ds) ≤ n
  | [], _ => Nat.zero_le _
  | d :: r, h => by
    show max (toPy d).depth (PyData.depthAll (toPys r)) ≤ n
    exact Nat.max_le.mpr ⟨h d (by simp), depthAll_le fun e he => h e (by simp [he])⟩
theorem layAll {ds : List D} : (∀ d ∈ ds, (toPy d).canLay0 = true) → PyData.canLayAll0 (toPys ds) = true := by
  induction ds with
  | nil => intro _; rfl
  | cons d r ih => intro h; show (PyData.canLay0 (toPy d) && PyData.canLayAll0 (toPys r)) = true; rw [h d (by simp), ih fun e he => h e (by simp [he])]; rfl
theorem okEq_py : ∀ (n : Nat) (d : D), okEq n d = true → (toPy d).depth ≤ n ∧ (toPy d).canLay0 = true := by
  intro n
  induction n with
  | zero =>
    intro d h
    cases d with
    | non => exact ⟨Nat.le_refl _, rfl⟩
    | bl _ => exact ⟨Nat.le_refl _, rfl⟩
    | int _ => exact ⟨Nat.le_refl _, rfl⟩
    | str x => exact ⟨Nat.le_refl _, h⟩
    | tup _ => simp [okEq] at h
    | lst _ _ => simp [okEq] at h
    | frl _ => simp [okEq] at h
    | dic _ _ => simp [okEq] at h
  | succ n ih =>
    intro d h
    cases d with
    | non => exact ⟨Nat.zero_le _, rfl⟩
    | bl _ => exact ⟨Nat.zero_le _, rfl⟩
    | int _ => exact ⟨Nat.zero_le _, rfl⟩
    | str x => exact ⟨Nat.zero_le _, h⟩
    | tup xs =>
      have h' : ∀ d ∈ xs, okEq n d = true := by simpa [okEq, List.all_eq_true] using h
      exact ⟨Nat.succ_le_succ (depthAll_le fun d hd => (ih d (h' d hd)).1), layAll fun d hd => (ih d (h' d hd)).2⟩
    | lst _ xs =>
      have h' : ∀ d ∈ xs, okEq n d = true := by simpa [okEq, List.all_eq_true] using h
      exact ⟨Nat.succ_le_succ (depthAll_le fun d hd => (ih d (h' d hd)).1), layAll fun d hd => (ih d (h' d hd)).2⟩
    | frl _ => simp [okEq] at h
    | dic _ _ => simp [okEq] at h
theorem shaped_of {n : Nat} {d : D} (hn : n ≤ 64) (h : okEq n d = true) : SeqAt.shaped (toPy d) = true := by
  obtain ⟨h1, h2⟩ := okEq_py n d h
  unfold SeqAt.shaped
  rw [h2, decide_eq_true (Nat.le_trans h1 hn)]
  rfl
theorem okEq_dp : ∀ (n : Nat) {v : V} {d : D} {F : Fp}, Rep K H I v d F → okEq n d = true → Dp K H v (toPy d) := by
  intro n
  induction n with
  | zero =>
    intro v d F r h
    cases r with
    | non _ => exact .non
    | bl x _ => exact .bl x
    | int x _ => exact .int x
    | str x _ => exact .str x
    | _ => simp [okEq] at h
  | succ n ih =>
    have all : ∀ {vs : List V} {ds : List D} {F : Fp}, Reps K H I vs ds F → (∀ d ∈ ds, okEq n d = true) → DpAll K H vs (toPys ds) := by
      intro vs
      induction vs with
      | nil => intro ds F r _; cases r; exact .nil
      | cons v vs ih2 =>
        intro ds F r h
        cases r with
        | cons a t _ => exact .cons (ih a (h _ (by simp))) (ih2 t fun d hd => h d (by simp [hd]))
    intro v d F r h
    cases d with
    | non => cases r; exact .non
    | bl x => cases r; exact .bl x
    | int x => cases r; exact .int x
    | str x => cases r; exact .str x
    | tup xs =>
      have h' : ∀ d ∈ xs, okEq n d = true := by simpa [okEq, List.all_eq_true] using h
      obtain ⟨a, vs, rfl, hs, _, rr⟩ := r.tupR
      exact .tup hs (all rr h')
    | lst o xs =>
      have h' : ∀ d ∈ xs, okEq n d = true := by simpa [okEq, List.all_eq_true] using h
      obtain ⟨a, vs, G, rfl, hs, _, rr, _⟩ := r.lstR
      exact .lst (.inl (.inl hs)) (all rr h')
    | frl _ => simp [okEq] at h
    | dic _ _ => simp [okEq] at h
theorem any_eqD (x : D) (ys : List D) : ((toPys ys).any fun z => PyData.eqv z (toPy x)) = ys.any fun y => eqD y x := by
  rw [toPys_map, List.any_map]
  rfl
end

/-- what an operation on two values asks: that it gives d, and what follows -/
def rBin (K : PySem.W.Frag) (f : D → D → Option D) : R2 := fun x y H Q =>
  ∃ I Fa d1 d2 d G1 G2, Good Fa H I ∧ Rep K H I x d1 G1 ∧ Rep K H I y d2 G2 ∧ (∀ b, G1 b ≤ Fa b) ∧ (∀ b, G2 b ≤ Fa b) ∧ f d1 d2 = some d ∧ Aft K Fa H I d Q
def rUn (K : PySem.W.Frag) (f : D → Option D) : V → Hp → VK → Prop := fun x H Q =>
  ∃ I Fa d1 d G1, Good Fa H I ∧ Rep K H I x d1 G1 ∧ (∀ b, G1 b ≤ Fa b) ∧ f d1 = some d ∧ Aft K Fa H I d Q
section
variable {X : Cx}
theorem op_bin {op : Operator} : OpR X (binaryOp op) (rBin X.K (binD op)) := by
  intro pins s σ H x y v u Q J rx ry ⟨I, Fa, d1, d2, d, G1, G2, g, r1, r2, l1, l2, hb, a⟩
  unfold binD at hb
  split at hb
  · cases hb; cases r1; cases r2
    exact op_add pins s σ H _ _ v u Q J rx ry ⟨_, _, rfl, rfl, a.int g⟩
  · cases hb; cases r1; cases r2
    exact op_sub pins s σ H _ _ v u Q J rx ry ⟨_, _, rfl, rfl, a.int g⟩
  · split at hb
    · rename_i hc
      cases hb; cases r1; cases r2
      exact op_mul pins s σ H _ _ v u Q J rx ry ⟨_, _, rfl, rfl, hc, a.int g⟩
    · cases hb
  · split at hb
    · rename_i hc
      cases hb; cases r1; cases r2
      refine (opI (f := binaryOp .Pow) (C := fun i j => 0 ≤ j ∧ (Builtin.Int.intBits i : Int) * j ≤ 2 ^ 27) (g := fun i j => i ^ j.toNat) fun i j t u s Q E hc q => pow_int hc.1 hc.2 q) pins s σ H _ _ v u Q J rx ry ⟨_, _, rfl, rfl, hc, a.int g⟩
    · cases hb
  · split at hb
    · rename_i hc
      cases hb; cases r1; cases r2
      exact op_mod pins s σ H _ _ v u Q J rx ry ⟨_, _, rfl, rfl, hc, a.int g⟩
    · cases hb
  · split at hb
    · rename_i hc
      cases hb; cases r1; cases r2
      exact op_fdivW pins s σ H _ _ v u Q J rx ry ⟨_, _, rfl, rfl, hc, a.int g⟩
    · cases hb
  · split at hb
    · rename_i hc
      cases hb
      obtain ⟨p, vs, rfl, s1, z1, q1⟩ := r1.tupR
      obtain ⟨q, ws, rfl, s2, z2, q2⟩ := r2.tupR
      have n1 := q1.length
      have n2 := q2.length
      have hz : vs.length + ws.length ≤ sizeLine := by rw [n1, n2]; exact sizeOk_le hc
      have app : Reps X.K H I (vs ++ ws) _ (fun _ => 0) := (q1.append q2).eqF fun b => rfl
      refine op_catA pins s σ H _ _ v u Q J rx ry ⟨p, q, vs, ws, rfl, rfl, s1, s2, hz, fun e => ?_, fun _ e => ?_, fun _ _ p' hp => a.tup g (by rw [List.length_append]; exact hz) app p' hp⟩
      · subst e
        cases q1
        exact a.same g (r2.eqF fun b => (r2.shd0 rfl b).symm)
      · subst e
        cases q2
        have ee : ∀ ds : List D, ds ++ [] = ds := List.append_nil
        rw [ee] at a
        exact a.same g (r1.eqF fun b => (r1.shd0 rfl b).symm)
    · cases hb
  · split at hb
    · rename_i hc
      cases hb
      simp only [Bool.and_eq_true] at hc
      obtain ⟨⟨c1, c2⟩, c3⟩ := hc
      obtain ⟨p, vs, F1, rfl, s1, z1, q1, _⟩ := r1.lstR
      obtain ⟨q, ws, F2, rfl, s2, z2, q2, _⟩ := r2.lstR
      have n1 := q1.length
      have n2 := q2.length
      have hz : vs.length + ws.length ≤ sizeLine := by rw [n1, n2]; exact sizeOk_le c3
      have app : Reps X.K H I (vs ++ ws) _ (fun _ => 0) := (q1.append q2).eqF fun b => by rw [q1.shd0 c1 b, q2.shd0 c2 b]
      exact op_cat pins s σ H _ _ v u Q J rx ry ⟨p, q, vs, ws, rfl, rfl, s1, s2, hz, fun p' hp => a.lst g (by rw [List.length_append]; exact hz) app p' hp⟩
    · cases hb
  · cases hb

theorem room_in {d : PyData} {ds : List PyData} {A : Around} (h : d.depth ≤ 60) (hu : A.units + 66 < cLine) : A.units + 1 + min (PyData.depthAll ds) d.depth < cLine := by
  have : min (PyData.depthAll ds) d.depth ≤ d.depth := Nat.min_le_right _ _
  omega
theorem op_inA (ng : Bool) (hu : X.A.units + 66 < cLine) {d1 d2 : D} {k : Bool} {pins : List (Addr × Obj)} {s : Shared} {σ : L2.St} {H : Hp} {x y : V} {v u : Value} {Q : VK} {I : AP} {G1 G2 : Fp} (J : Inv X pins σ H s) (rx : RelV x v) (ry : RelV y u)
    (r1 : Rep X.K H I x d1 G1) (r2 : Rep X.K H I y d2 G2) (hk : inD d1 d2 = some k) (q : Q (.bl (if ng then !k else k)) H) : wpAny (model X.prog X.w) X.A (compareOp (if ng then .NotIn else .In) v u) (EP X pins σ Q) X.xe s := by
  have fin : EP X pins σ Q (.bool (if ng then !k else k)) s := ⟨.bl _, H, J, rfl, q⟩
  cases d2 with
  | tup ys =>
    unfold inD at hk
    dsimp only at hk
    split at hk
    · rename_i hc
      simp only [Bool.and_eq_true] at hc
      obtain ⟨o1, o2⟩ := hc
      have o2' : okEq 61 (.tup ys) = true := o2
      obtain ⟨as, q1⟩ := Dp.reads J _ x v (okEq_dp 60 r1 o1) rx
      obtain ⟨bs, q2⟩ := Dp.reads J _ y u (okEq_dp 61 r2 o2') ry
      have lay := (okEq_py 61 _ o2').2
      cases hk
      cases ng with
      | false => exact SeqAt.in_tuple_reads q2 q1 lay (okEq_py 60 _ o1).2 (room_in (okEq_py 60 _ o1).1 hu) (by rw [any_eqD]; exact fin)
      | true => exact SeqAt.notIn_tuple_reads q2 q1 lay (okEq_py 60 _ o1).2 (room_in (okEq_py 60 _ o1).1 hu) (by rw [any_eqD]; exact fin)
    · cases hk
  | lst o ys =>
    unfold inD at hk
    dsimp only at hk
    split at hk
    · rename_i hc
      simp only [Bool.and_eq_true] at hc
      obtain ⟨o1, o2⟩ := hc
      have o2' : okEq 61 (.lst o ys) = true := o2
      obtain ⟨as, q1⟩ := Dp.reads J _ x v (okEq_dp 60 r1 o1) rx
      obtain ⟨bs, q2⟩ := Dp.reads J _ y u (okEq_dp 61 r2 o2') ry
      have lay := (okEq_py 61 _ o2').2
      cases hk
      cases ng with
      | false => exact SeqAt.in_list_reads q2 q1 lay (okEq_py 60 _ o1).2 (room_in (okEq_py 60 _ o1).1 hu) (by rw [any_eqD]; exact fin)
      | true => exact SeqAt.notIn_list_reads q2 q1 lay (okEq_py 60 _ o1).2 (room_in (okEq_py 60 _ o1).1 hu) (by rw [any_eqD]; exact fin)
    · cases hk
  | _ => cases hk
theorem op_eqA (ng : Bool) (hu : X.A.units + 66 < cLine) {d1 d2 : D} {pins : List (Addr × Obj)} {s : Shared} {σ : L2.St} {H : Hp} {x y : V} {v u : Value} {Q : VK} {I : AP} {G1 G2 : Fp} (J : Inv X pins σ H s) (rx : RelV x v) (ry : RelV y u)
    (r1 : Rep X.K H I x d1 G1) (r2 : Rep X.K H I y d2 G2) (o1 : okEq 60 d1 = true) (o2 : okEq 60 d2 = true) (q : Q (.bl (if ng then !eqD d1 d2 else eqD d1 d2)) H) : wpAny (model X.prog X.w) X.A (compareOp (if ng then .NotEq else .Eq) v u) (EP X pins σ Q) X.xe s := by
  cases ng with
  | false => exact op_eqD (by omega) pins s σ H x y v u Q J rx ry ⟨_, _, okEq_dp 60 r1 o1, okEq_dp 60 r2 o2, shaped_of (by decide) o1, shaped_of (by decide) o2, q⟩
  | true => exact op_neD (by omega) pins s σ H x y v u Q J rx ry ⟨_, _, okEq_dp 60 r1 o1, okEq_dp 60 r2 o2, shaped_of (by decide) o1, shaped_of (by decide) o2, q⟩
theorem op_cmp {op : CmpOp} (hu : X.A.units + 66 < cLine) : OpR X (compareOp op) (rBin X.K fun a b => (cmpD op a b).map .bl) := by
  intro pins s σ H x y v u Q J rx ry ⟨I, Fa, d1, d2, d, G1, G2, g, r1, r2, l1, l2, hb, a⟩
  have hb : (cmpD op d1 d2).map D.bl = some d := hb
  cases hc : cmpD op d1 d2 with
  | none => rw [hc] at hb; cases hb
  | some k =>
    rw [hc] at hb
    cases hb
    have q : Q (.bl k) H := a.bl g
    unfold cmpD at hc
    split at hc
    · cases hc; cases r1; cases r2; exact op_lt pins s σ H _ _ v u Q J rx ry ⟨_, _, rfl, rfl, q⟩
    · cases hc; cases r1; cases r2; exact op_le pins s σ H _ _ v u Q J rx ry ⟨_, _, rfl, rfl, q⟩
    · cases hc; cases r1; cases r2; exact op_gt pins s σ H _ _ v u Q J rx ry ⟨_, _, rfl, rfl, q⟩
    · cases hc; cases r1; cases r2; exact op_ge pins s σ H _ _ v u Q J rx ry ⟨_, _, rfl, rfl, q⟩
    · cases hc
      have e : ∀ i j : Int, eqD (.int i) (.int j) = decide (i = j) := fun i j => by show (i == j) = _; rw [Bool.beq_eq_decide_eq]
      exact op_eqA false hu J rx ry r1 r2 rfl rfl (by rw [e]; exact q)
    · cases hc
      have e : ∀ i j : Int, eqD (.int i) (.int j) = decide (i = j) := fun i j => by show (i == j) = _; rw [Bool.beq_eq_decide_eq]
      exact op_eqA true hu J rx ry r1 r2 rfl rfl (by rw [e]; exact q)
    · split at hc
      · rename_i ho
        cases hc
        simp only [Bool.and_eq_true] at ho
        exact op_eqA false hu J rx ry r1 r2 ho.1 ho.2 q
      · cases hc
    · split at hc
      · rename_i ho
        cases hc
        simp only [Bool.and_eq_true] at ho
        exact op_eqA true hu J rx ry r1 r2 ho.1 ho.2 q
      · cases hc
    · exact op_inA false hu J rx ry r1 r2 hc q
    · cases e : inD d1 d2 with
      | none => rw [e] at hc; cases hc
      | some k' => rw [e] at hc; cases hc; exact op_inA true hu J rx ry r1 r2 e q
    · cases hc
theorem un_neg' : UnR X (unaryOp .USub) (rUn X.K negD) := by
  intro pins s σ H x v Q J rx ⟨I, Fa, d1, d, G1, g, r1, l1, hb, a⟩
  unfold negD at hb
  split at hb
  · cases hb; cases r1
    exact un_neg pins s σ H _ v Q J rx ⟨_, rfl, a.int g⟩
  · cases hb
theorem truV_of {K : PySem.W.Frag} {H : Hp} {I : AP} {x : V} {d : D} {F : Fp} {k : Bool} (r : Rep K H I x d F) (h : truD d = some k) : TruV K x H k := by
  cases d with
  | non => cases r; cases h; rfl
  | bl b => cases r; cases h; rfl
  | int i => cases r; cases h; rfl
  | tup xs =>
    obtain ⟨a, vs, rfl, hs, _, rr⟩ := r.tupR
    cases h
    have e : vs.isEmpty = xs.isEmpty := by cases rr <;> rfl
    exact .inr (.inl ⟨vs, hs, by rw [e]⟩)
  | lst o xs =>
    obtain ⟨a, vs, G, rfl, hs, _, rr, _⟩ := r.lstR
    cases h
    have e : vs.isEmpty = xs.isEmpty := by cases rr <;> rfl
    exact .inl ⟨vs, .inl (.inl hs), by rw [e]⟩
  | _ => cases h
end
end DE
/-! # DeG: sharing, names, displays, operators as expressions -/
namespace DE
open PySem PySem.Spec PyProof.Rows L2

section
variable {K : PySem.W.Frag} {H : Hp} {I : AP}
theorem shareK_fst : ∀ ds : List (D × D), (shareK ds).map (·.1) = ds.map (·.1)
  | [] => rfl
  | (k, d) :: r => by show k :: (shareK r).map (·.1) = _; rw [shareK_fst r]; rfl
theorem shareK_snd : ∀ ds : List (D × D), (shareK ds).map (·.2) = shares (ds.map (·.2))
  | [] => rfl
  | (k, d) :: r => by show share d :: (shareK r).map (·.2) = _; rw [shareK_snd r]; rfl
theorem share_of_shd {d : D} (h : shd d = true) : share d = d := by
  cases d with
  | lst o xs => cases o with
    | false => rfl
    | true => cases h
  | dic o xs => cases o with
    | false => rfl
    | true => cases h
  | _ => rfl
theorem shd_share (d : D) : shd (share d) = true := by
  cases d with
  | lst o xs => cases o <;> rfl
  | dic o xs => cases o <;> rfl
  | _ => rfl
theorem shares_shd : ∀ ds : List D, (shares ds).all shd = true
  | [] => rfl
  | d :: r => by show (shd (share d) && (shares r).all shd) = true; rw [shd_share, shares_shd r]; rfl
/-- a larger world for what is shared -/
theorem Rep.up {I' : AP} {v : V} {d : D} {F : Fp} (r : Rep K H I v d F) (h : ∀ b, I b → I' b) : Rep K H I' v d F := (Rep.mono h).1 r fun _ _ _ e => e
theorem Reps.up {I' : AP} {v : List V} {d : List D} {F : Fp} (r : Reps K H I v d F) (h : ∀ b, I b → I' b) : Reps K H I' v d F := (Rep.mono h).2 r fun _ _ _ e => e
/-- what was owned is shared -/
theorem Rep.share {v : V} {d : D} {F : Fp} (r : Rep K H I v d F) : ∀ I' : AP, (∀ b, I b ∨ F b ≠ 0 → I' b) → Rep K H I' v (share d) (fun _ => 0) := by
  refine Rep.rec (motive_1 := fun v d F _ => ∀ I' : AP, (∀ b, I b ∨ F b ≠ 0 → I' b) → Rep K H I' v (DE.share d) (fun _ => 0))
    (motive_2 := fun v d F _ => ∀ I' : AP, (∀ b, I b ∨ F b ≠ 0 → I' b) → Reps K H I' v (shares d) (fun _ => 0)) ?_ ?_ ?_ ?_ ?_ ?_ ?_ ?_ ?_ ?_ ?_ ?_ ?_ ?_ ?_ r
  · exact fun _ _ _ => .non fun _ => rfl
  · exact fun x _ _ _ => .bl x fun _ => rfl
  · exact fun x _ _ _ => .int x fun _ => rfl
  · exact fun x _ _ _ => .str x fun _ => rfl
  · exact fun hi h hz r hG hF _ I' k => .tup (k _ (.inl hi)) h hz (r.up fun b z => k b (.inl z)) hG fun _ => rfl
  · exact fun h hz r hG hF _ I' k => .tupK h hz (r.up fun b z => k b (.inl z)) hG fun _ => rfl
  · exact fun hi h hz r hG hF _ I' k => .lstS (k _ (.inl hi)) h hz (r.up fun b z => k b (.inl z)) hG fun _ => rfl
  · exact fun {F G a vs ds} h hz r hF ih I' k => .lstS (k a (.inr (by rw [hF a, sing_self]; omega))) h hz (ih I' fun b z => k b (z.elim .inl fun y => .inr (by rw [hF b]; omega))) (fun _ => rfl) fun _ => rfl
  · exact fun h hz hF I' k => .frl (h.mono (fun b z => k b (.inl z)) fun _ _ _ e => e) hz fun _ => rfl
  · exact fun hi h hk r hG hF _ I' k => .dKS (k _ (.inl hi)) h hk (r.up fun b z => k b (.inl z)) hG fun _ => rfl
  · exact fun {F G a kvs ds} h hk r hF ih I' k => .dKS (k a (.inr (by rw [hF a, sing_self]; omega))) h (by rw [shareK_fst]; exact hk) (by rw [shareK_snd]; exact ih I' fun b z => k b (z.elim .inl fun y => .inr (by rw [hF b]; omega))) (fun _ => rfl) fun _ => rfl
  · exact fun hi h hne hk r hG hF _ I' k => .dTS (k _ (.inl hi)) h hne hk (r.up fun b z => k b (.inl z)) hG fun _ => rfl
  · exact fun {F G a kvs ds} h hne hk r hF ih I' k => .dTS (k a (.inr (by rw [hF a, sing_self]; omega))) h hne (by rw [shareK_fst]; exact hk) (by rw [shareK_snd]; exact ih I' fun b z => k b (z.elim .inl fun y => .inr (by rw [hF b]; omega))) (fun _ => rfl) fun _ => rfl
  · exact fun hF _ _ => .nil fun _ => rfl
  · exact fun {F F1 F2 v vs d ds} _ _ hF i1 i2 I' k => .cons (i1 I' fun b z => k b (z.elim .inl fun y => .inr (by rw [hF b]; omega))) (i2 I' fun b z => k b (z.elim .inl fun y => .inr (by rw [hF b]; omega))) fun _ => rfl
/-- the world in which G is shared -/
def isIm (I : AP) (G : Fp) : AP := fun b => I b ∨ G b ≠ 0
theorem Step.share {F G : Fp} (g : Good (fun b => F b + G b) H I) : Step (fun b => F b + G b) H I F H (isIm I G) := by
  refine ⟨fun b h => .inl h, fun b o h _ => h, fun b h => h.elim .inl fun z => .inr (.inl (by omega)), fun b h => .inl (by omega), ⟨fun b => by have := g.one b; omega, fun b h => ⟨fun z => ?_, (g.own b (by omega)).2⟩, fun b h => ?_⟩⟩
  · rcases z with z | z
    · exact (g.own b (by omega)).1 z
    · have := g.one b; omega
  · rcases h with h | h
    · exact g.imm b h
    · exact (g.own b (by omega)).2
end

section
variable {K : PySem.W.Frag} {W : WishX} {σ : L2.St} {o : Org} {ρ : Env} {H : Hp} {I : AP} {F : Fp} {T : List Tmp}
/-- a name's value is shared -/
theorem Cur.freeze {i : Nat} {d : D} (c : Cur K σ o ρ H I F T) (e : (ρ[i]?).join = some d) : ∃ v I' F', σ[i]? = some (some v) ∧ Rep K H I' v (share d) (fun _ => 0) ∧ Cur K σ o (ρ.set i (some (share d))) H I' F' T ∧ (∀ b, I b → I' b) ∧ Step (fun b => F b + tfp T b) H I (fun b => F' b + tfp T b) H I' := by
  have e2 : ρ[i]? = some (some d) := by
    cases q : ρ[i]? with
    | none => rw [q] at e; cases e
    | some z => rw [q] at e; exact congrArg some e
  obtain ⟨v, G, F', h1, h2, h3, h4⟩ := c.env.take e2
  have g : Good (fun b => (F' b + tfp T b) + G b) H I := c.good.mono fun b => by have := h4 b; omega
  have s := Step.share g
  have r := h2.share (isIm I G) fun b z => z
  have env := (RelE.mono (I' := isIm I G) (fun b z => .inl z) h3 (fun _ _ _ e => e)).put h1 c.env.length r
  refine ⟨v, isIm I G, F', h1, r, ⟨(c.st.trans (s.from (G := fun _ => 0) (g.mono fun b => by omega) fun b => by have := h4 b; omega)).eqF fun b => by omega, env.eqF fun b => by omega, fun t ht => ?_⟩, fun b z => .inl z, ?_⟩
  · have sG : Step (fun b => (fun _ => 0 : Fp) b + G b) H I (fun _ => 0) H (isIm I G) := Step.share (c.good.mono fun b => by have := h4 b; omega)
    exact OpdRel.step (c.tm t ht) sG (c.good.mono fun b => by have := h4 b; have := tfp_mem ht b; dsimp only; omega)
  · exact (s.from (G := fun _ => 0) (g.mono fun b => by omega) fun b => by have := h4 b; omega).eqF fun b => by omega
end

/-! ### readings of the short syntax -/
abbrev RE (X : Cx) (W : WishX) (c : Ctx) (p : PX) : TE := Rd X.K W (rD X.K) (ev c p)
abbrev RO (X : Cx) (W : WishX) (c : Ctx) (p : PX) : TE := Rd X.K W (rO X.K) (mkOpd p (ev c p))
abbrev RT (X : Cx) (W : WishX) (c : Ctx) (p : QT) : TT := Rd X.K W rB (evT c p)
structure EOk (X : Cx) (W : WishX) (c : Ctx) (e : Expr) (p : PX) : Prop where
  val : PE X e (RE X W c p)
  opd : PE X e (RO X W c p)

section
variable {X : Cx} {W : WishX} {c : Ctx} {e a b : Expr} {p q : PX} {pos : Pos}
/-- an expression that is no name: as an operand it is a value of its own -/
theorem EOk.of (hp : ∀ i, p ≠ .var i) (h : PE X e (RE X W c p)) : EOk X W c e p := by
  refine ⟨h, h.imp fun σ H Q ⟨o, ρ, e1, g, r, ps⟩ => ⟨o, ρ, e1, g, r, ?_⟩⟩
  have e2 : mkOpd p (ev c p) ρ = (ev c p ρ).bind fun d ρ => .ok (.val d) ρ := by
    cases p <;> first | rfl | exact absurd rfl (hp _)
  rw [e2] at ps
  cases q : ev c p ρ with
  | ok d ρ' => rw [q] at ps; exact ps
  | exc x y ρ' => rw [q] at ps; exact ps
  | stuck => rw [q] at ps; exact ps
theorem eo_var {i : Nat} {x : Str} (h : PE X (.Name x pos) (tVar i)) : EOk X W c (.Name x pos) (.var i) := by
  refine ⟨h.imp fun σ H Q ⟨o, ρ, e1, g, r, ps⟩ => ?_, h.imp fun σ H Q ⟨o, ρ, e1, g, r, ps⟩ => ?_⟩
  · subst e1
    have ps : Post X.K W σ o (rD X.K σ) Q (readV i ρ) := ps
    unfold readV at ps
    cases e : (ρ[i]?).join with
    | none => rw [e] at ps; exact False.elim ps
    | some d =>
      rw [e] at ps
      have cu := Cur.start g r
      dsimp only at ps
      split at ps
      · rename_i hs
        have e2 : ρ[i]? = some (some d) := by
          cases q : ρ[i]? with
          | none => rw [q] at e; cases e
          | some z => rw [q] at e; exact congrArg some e
        obtain ⟨v, G, h1, h2, h3⟩ := r.get e2
        exact ⟨v, h1, ps v o.H o.I o.F (fun _ => 0) ((Step.refl g).eqF fun b => by omega) r (h2.eqF fun b => (h2.shd0 hs b).symm)⟩
      · obtain ⟨v, I', F', h1, h2, h3, _, _⟩ := cu.freeze e
        exact ⟨v, h1, ps v o.H I' F' (fun _ => 0) (h3.st.eqF fun b => by simp [tfp]) h3.env h2⟩
  · subst e1
    have ps : Post X.K W σ o (rO X.K σ) Q (match (ρ[i]?).join with
      | some _ => .ok (.slot i) ρ
      | none => .stuck) := ps
    cases e : (ρ[i]?).join with
    | none => rw [e] at ps; exact False.elim ps
    | some d =>
      rw [e] at ps
      have e2 : ρ[i]? = some (some d) := by
        cases q : ρ[i]? with
        | none => rw [q] at e; cases e
        | some z => rw [q] at e; exact congrArg some e
      obtain ⟨v, G, h1, h2, h3⟩ := r.get e2
      exact ⟨v, h1, ps v o.H o.I o.F (fun _ => 0) ((Step.refl g).eqF fun b => by omega) r ⟨h1, fun _ => rfl⟩⟩
/-- a constant -/
theorem eo_cst {v : V} {d : D} (h : PE X e (tC v)) (r : ∀ H I, Rep X.K H I v d fun _ => 0) : EOk X W c e (.cst d) :=
  .of (fun _ z => nomatch z) (h.imp fun σ H Q ⟨o, ρ, e1, g, rr, ps⟩ => by
    subst e1
    exact ps v o.H o.I o.F (fun _ => 0) ((Step.refl g).eqF fun b => by omega) rr (r _ _))
/-- two operands -/
theorem rd_two {γ : Type} {rel : L2.St → RelR D V} {g1 g2 : Env → Out Opd} {k : Opd → Opd → Env → Out D} {σ : L2.St} {H : Hp} {Q : VK} {R : V → V → Hp → Prop}
    (h : Rd X.K W rel (fun ρ => (g1 ρ).bind fun x ρ => (g2 ρ).bind fun y ρ => k x y ρ) σ H Q)
    (hk : ∀ o v u x y ρ H I F G1 G2, Cur X.K σ o ρ H I F [⟨v, x, G1⟩, ⟨u, y, G2⟩] → Post X.K W σ o (rel σ) Q (k x y ρ) → R v u H) :
    Rd X.K W (rO X.K) g1 σ H fun v H1 => Rd X.K W (rO X.K) g2 σ H1 fun u H2 => R v u H2 := by
  obtain ⟨o, ρ, e1, g, r, ps⟩ := h
  subst e1
  refine (Cur.start g r).runO ps fun v H1 x ρ1 I1 F1 G1 c1 p1 => ?_
  exact c1.runO p1 fun u H2 y ρ2 I2 F2 G2 c2 p2 => hk o v u x y ρ2 H2 I2 F2 G1 G2 c2 p2
theorem rd_one {rel : L2.St → RelR D V} {g1 : Env → Out Opd} {k : Opd → Env → Out D} {σ : L2.St} {H : Hp} {Q : VK} {R : V → Hp → Prop}
    (h : Rd X.K W rel (fun ρ => (g1 ρ).bind fun x ρ => k x ρ) σ H Q)
    (hk : ∀ o v x ρ H I F G1, Cur X.K σ o ρ H I F [⟨v, x, G1⟩] → Post X.K W σ o (rel σ) Q (k x ρ) → R v H) :
    Rd X.K W (rO X.K) g1 σ H fun v H1 => R v H1 := by
  obtain ⟨o, ρ, e1, g, r, ps⟩ := h
  subst e1
  exact (Cur.start g r).runO ps fun v H1 x ρ1 I1 F1 G1 c1 p1 => hk o v x ρ1 H1 I1 F1 G1 c1 p1
theorem rbin_of {f : D → D → Option D} {σ : L2.St} {o : Org} {v u : V} {x y : Opd} {ρ : Env} {H : Hp} {I : AP} {F G1 G2 : Fp} {Q : VK} (cu : Cur X.K σ o ρ H I F [⟨v, x, G1⟩, ⟨u, y, G2⟩]) (p : Post X.K W σ o (rD X.K σ) Q (op2 f x y ρ)) : rBin X.K f v u H Q := by
  obtain ⟨d, e, z, G, G', r1, r2, l1, l2, h, a⟩ := cu.op2 (x := ⟨v, x, G1⟩) (y := ⟨u, y, G2⟩) (by simp) (by simp) p
  exact ⟨I, _, d, e, z, G, G', cu.good, r1, r2, l1, l2, h, a⟩
theorem run_of {f : D → Option D} {σ : L2.St} {o : Org} {v : V} {x : Opd} {ρ : Env} {H : Hp} {I : AP} {F G1 : Fp} {T : List Tmp} {Q : VK} (cu : Cur X.K σ o ρ H I F T) (hm : ⟨v, x, G1⟩ ∈ T) (p : Post X.K W σ o (rD X.K σ) Q (op1 f x ρ)) : rUn X.K f v H Q := by
  obtain ⟨d, e, G, r1, l1, h, a⟩ := cu.op1 (x := ⟨v, x, G1⟩) hm p
  exact ⟨I, _, d, e, G, cu.good, r1, l1, h, a⟩
theorem eo_bin {op : Operator} (ha : EOk X W c a p) (hb : EOk X W c b q) : EOk X W c (.BinOp a op b pos) (.bin op p q) :=
  .of (fun _ z => nomatch z) ((pe_op op_bin ha.opd hb.opd).imp fun σ H Q h => rd_two (γ := Unit) (rel := rD X.K) h fun o v u x y ρ H I F G1 G2 cu p => rbin_of cu p)
theorem eo_neg (ha : EOk X W c a p) : EOk X W c (.UnaryOp .USub a pos) (.neg p) :=
  .of (fun _ z => nomatch z) ((pe_un un_neg' ha.opd).imp fun σ H Q h => rd_one (rel := rD X.K) h fun o v x ρ H I F G1 cu p => run_of cu List.mem_cons_self p)
theorem eo_cmp {op : CmpOp} (hu : X.A.units + 66 < cLine) (ha : EOk X W c a p) (hb : EOk X W c b q) (hm : behindInMarks op b = false) : EOk X W c (.Compare a [op] [b] pos) (.cmp op p q) :=
  .of (fun _ z => nomatch z) ((pe_cmpR (op_cmp hu) ha.opd hb.opd hm).imp fun σ H Q h => rd_two (γ := Unit) (rel := rD X.K) h fun o v u x y ρ H I F G1 G2 cu p => rbin_of cu p)
end
end DE
/-! # DeH: built-ins, subscripts, slices by values -/
namespace DE
open PySem PySem.Spec PyProof.Rows L2

section
variable {K : PySem.W.Frag} {H : Hp} {I : AP}
theorem Reps.ints : ∀ {vs : List V} {ds : List D} {F : Fp} {ns : List Int}, Reps K H I vs ds F → intsOf ds = some ns → vs = ns.map V.int ∧ ds = ns.map D.int
  | _, _, _, _, .nil _, h => by cases h; exact ⟨rfl, rfl⟩
  | _, _, _, _, .cons (d := d) (ds := ds) a t _, h => by
    cases d with
    | int i =>
      cases a
      have h : (intsOf ds).map (i :: ·) = some _ := h
      cases e : intsOf ds with
      | none => rw [e] at h; cases h
      | some r =>
        rw [e] at h
        cases h
        obtain ⟨h1, h2⟩ := Reps.ints t e
        exact ⟨by rw [h1]; rfl, by rw [h2]; rfl⟩
    | _ => cases h
theorem Reps.bls : ∀ {vs : List V} {ds : List D} {F : Fp} {ns : List Bool}, Reps K H I vs ds F → blsOf ds = some ns → vs = ns.map V.bl
  | _, _, _, _, .nil _, h => by cases h; rfl
  | _, _, _, _, .cons (d := d) (ds := ds) a t _, h => by
    cases d with
    | bl i =>
      cases a
      have h : (blsOf ds).map (i :: ·) = some _ := h
      cases e : blsOf ds with
      | none => rw [e] at h; cases h
      | some r =>
        rw [e] at h
        cases h
        rw [Reps.bls t e]; rfl
    | _ => cases h
theorem reps_ints (ns : List Int) : Reps K H I (ns.map V.int) (ns.map D.int) (fun _ => 0) := by
  induction ns with
  | nil => exact .nil fun _ => rfl
  | cons n r ih => exact .cons (.int n fun _ => rfl) ih fun _ => rfl
theorem intsOf_map (ns : List Int) : intsOf (ns.map D.int) = some ns := by
  induction ns with
  | nil => rfl
  | cons n r ih => show (intsOf (r.map D.int)).map (n :: ·) = _; rw [ih]; rfl
theorem eqD_kD (a b : Key) : eqD (kD a) (kD b) = decide (a = b) := by
  cases a with
  | inl i => cases b with
    | inl j => show (i == j) = _; rw [key_ll]
    | inr y => rw [key_lr]; rfl
  | inr x => cases b with
    | inl j => rw [key_rl]; rfl
    | inr y => show (x == y) = _; rw [key_rr, Bool.beq_eq_decide_eq]
theorem isKey_kD {d : D} (h : isKey d = true) : ∃ k : Key, d = kD k := by
  cases d with
  | int i => exact ⟨.inl i, rfl⟩
  | str x => exact ⟨.inr x, rfl⟩
  | _ => cases h
theorem Rep.key {v : V} {k : Key} {F : Fp} (r : Rep K H I v (kD k) F) : v = kV k := by
  cases k with
  | inl i => cases r; rfl
  | inr x => cases r; rfl
theorem keyD_get : ∀ {kvs : List (Key × V)} {ds : List (D × D)} {F : Fp} {k : Key} {d : D}, ds.map (·.1) = kvs.map (fun p => kD p.1) → Reps K H I (kvs.map (·.2)) (ds.map (·.2)) F → keyD ds (kD k) = some d →
    ∃ v G, valV kvs k = some v ∧ Rep K H I v d G ∧ ∀ b, G b ≤ F b
  | [], [], _, _, _, _, _, h => by cases h
  | [], _ :: _, _, _, _, e, _, _ => by cases e
  | _ :: _, [], _, _, _, e, _, _ => by cases e
  | (k', v') :: kvs, (d', e') :: ds, F, k, d, e, r, h => by
    simp only [List.map_cons, List.cons.injEq] at e
    obtain ⟨e1, e2⟩ := e
    subst e1
    cases r with
    | cons a t hF =>
      unfold keyD at h
      rw [List.find?_cons] at h
      simp only [eqD_kD] at h
      by_cases c : k' = k
      · simp only [c, decide_true] at h
        cases h
        exact ⟨v', _, valV_pos c, a, fun b => by rw [hF b]; omega⟩
      · simp only [c, decide_false] at h
        obtain ⟨v, G, h1, h2, h3⟩ := keyD_get (kvs := kvs) (ds := ds) e2 t h
        exact ⟨v, G, (valV_neg c).trans h1, h2, fun b => by rw [hF b]; have := h3 b; omega⟩
theorem keyD_none : ∀ {kvs : List (Key × V)} {ds : List (D × D)} {k : Key}, ds.map (·.1) = kvs.map (fun p => kD p.1) → (keyD ds (kD k)).isSome = (valV kvs k).isSome
  | [], [], _, _ => rfl
  | [], _ :: _, _, e => by cases e
  | _ :: _, [], _, e => by cases e
  | (k', v') :: kvs, (d', e') :: ds, k, e => by
    simp only [List.map_cons, List.cons.injEq] at e
    obtain ⟨e1, e2⟩ := e
    subst e1
    unfold keyD
    rw [List.find?_cons]
    simp only [eqD_kD]
    by_cases c : k' = k
    · simp only [c, decide_true]
      rw [valV_pos (p := (k, v')) rfl]; rfl
    · simp only [c, decide_false]
      rw [valV_neg c]
      exact keyD_none e2
/-- a dict's reading, keys ints and texts -/
theorem Rep.dicR {v : V} {o : Bool} {ds : List (D × D)} {F : Fp} (r : Rep K H I v (.dic o ds) F) : (∃ a kvs G, v = .ref a ∧ H a = some (.dK kvs) ∧ ds.map (·.1) = kvs.map (fun p => kD p.1) ∧ Reps K H I (kvs.map (·.2)) (ds.map (·.2)) G ∧ (∀ b, G b ≤ F b)) ∨
    (∃ a kvs G, v = .ref a ∧ H a = some (.dT kvs) ∧ kvs ≠ [] ∧ ds.map (·.1) = kvs.map (fun p => .tup (p.1.map kD)) ∧ Reps K H I (kvs.map (·.2)) (ds.map (·.2)) G ∧ (∀ b, G b ≤ F b)) := by
  cases r with
  | dKS a1 a2 a3 a4 a5 hF => exact .inl ⟨_, _, _, rfl, a2, a3, a4, fun b => by rw [a5 b]; omega⟩
  | dKO a1 a2 a3 hF => exact .inl ⟨_, _, _, rfl, a1, a2, a3, fun b => by rw [hF b]; omega⟩
  | dTS a1 a2 an a3 a4 a5 hF => exact .inr ⟨_, _, _, rfl, a2, an, a3, a4, fun b => by rw [a5 b]; omega⟩
  | dTO a1 an a2 a3 hF => exact .inr ⟨_, _, _, rfl, a1, an, a2, a3, fun b => by rw [hF b]; omega⟩
theorem ixD_ixN (n : Nat) (i : Int) : ixD n i = L2.ixN n i := rfl
theorem keyD_tup {kvs : List (List Key × V)} {ds : List (D × D)} {k : Key} {d : D} (e : ds.map (·.1) = kvs.map (fun p => .tup (p.1.map kD))) (h : keyD ds (kD k) = some d) : False := by
  unfold keyD at h
  cases q : ds.find? (fun p => eqD p.1 (kD k)) with
  | none => rw [q] at h; cases h
  | some p =>
    have h1 := List.find?_some q
    have h2 := List.mem_of_find?_eq_some q
    have h3 : p.1 ∈ ds.map (·.1) := List.mem_map.mpr ⟨p, h2, rfl⟩
    rw [e] at h3
    obtain ⟨z, _, h4⟩ := List.mem_map.mp h3
    rw [← h4] at h1
    cases k <;> cases h1
end

section
variable {X : Cx}
theorem ix_dict (hu : X.A.units + 1 < cLine) : IxR X (fun x y H Q => ∃ a v, x = .ref a ∧ DGet H a y (some v) ∧ Q v H) := by
  intro value slice pins s σ H x y v u Q J rx ry ⟨a, w, e, g, q⟩ hs
  subst e
  obtain rfl : v = Value.ref a := rx
  exact tail_any (dict_typeIs J g) PySem.F.slot_dict_getitem.lookup (d_getItem hu J g ry fun w' s3 I3 rw' => ⟨w, H, I3, rw', q⟩) hs
/-- a[i]: an item that is shared -/
def rSub (K : PySem.W.Frag) : R2 := fun x y H Q => ∃ I d1 d2 d G1 G2, Rep K H I x d1 G1 ∧ Rep K H I y d2 G2 ∧ subD d1 d2 = some d ∧ shd d = true ∧ ∀ v, Rep K H I v d (fun _ => 0) → Q v H
theorem ix_any (hu : X.A.units + 66 < cLine) : IxR X (rSub X.K) := by
  intro value slice pins s σ H x y v u Q J rx ry ⟨I, d1, d2, d, G1, G2, r1, r2, h, hs, q⟩ hsl
  have seq : ∀ {xs : List D} {i : Int} {vs : List V} {F : Fp}, Reps X.K H I vs xs F → ((ixD xs.length i).bind fun j => xs[j]?) = some d → ∃ w, atI vs i = some w ∧ Q w H := by
    intro xs i vs F rr hh
    cases e : ixD xs.length i with
    | none => rw [e] at hh; cases hh
    | some j =>
      rw [e] at hh
      obtain ⟨w, G, h1, h2, _⟩ := rr.get hh
      refine ⟨w, ?_, q w (h2.eqF fun b => (h2.shd0 hs b).symm)⟩
      unfold atI
      rw [rr.length, ← ixD_ixN, e]
      exact h1
  cases d1 with
  | tup xs =>
    cases d2 with
    | int i =>
      cases r2
      obtain ⟨a, vs, rfl, s1, _, rr⟩ := r1.tupR
      obtain ⟨w, h1, h2⟩ := seq rr h
      exact ix_tup value slice pins s σ H _ _ v u Q J rx ry ⟨a, vs, i, w, rfl, rfl, s1, h1, h2⟩ hsl
    | _ => cases h
  | lst o xs =>
    cases d2 with
    | int i =>
      cases r2
      obtain ⟨a, vs, G, rfl, s1, _, rr, _⟩ := r1.lstR
      obtain ⟨w, h1, h2⟩ := seq rr h
      exact ix_list value slice pins s σ H _ _ v u Q J rx ry ⟨a, vs, i, w, rfl, rfl, .inl (.inl s1), h1, h2⟩ hsl
    | _ => cases h
  | frl ns =>
    cases d2 with
    | int i =>
      cases r2
      cases r1 with
      | frl ho hz hF =>
        rename_i a
        have h : (((ixD ns.length i).bind fun j => ns[j]?).map D.int) = some d := h
        cases e : ixD ns.length i with
        | none => rw [e] at h; cases h
        | some j =>
          cases e2 : ns[j]? with
          | none => rw [e] at h; simp [e2] at h
          | some n =>
            rw [e] at h
            simp [e2] at h
            subst h
            refine ix_list value slice pins s σ H _ _ v u Q J rx ry ⟨a, ns.map V.int, i, .int n, rfl, rfl, ho.sq, ?_, q _ (.int n fun _ => rfl)⟩ hsl
            unfold atI
            rw [List.length_map, ← ixD_ixN, e]
            simp [e2]
    | _ => cases h
  | dic o kvs =>
    have h : (if isKey d2 then keyD kvs d2 else none) = some d := h
    split at h
    · rename_i hk
      obtain ⟨k, rfl⟩ := isKey_kD hk
      rcases r1.dicR with ⟨a, ks, G, rfl, s1, e1, rr, _⟩ | ⟨a, ks, G, rfl, s1, hne, e1, rr, _⟩
      · obtain ⟨w, G', h1, h2, _⟩ := keyD_get e1 rr h
        have := r2.key
        subst this
        exact ix_dict (by omega) value slice pins s σ H _ _ v u Q J rx ry ⟨a, w, rfl, by rw [← h1]; exact DGet.k s1, q w (h2.eqF fun b => (h2.shd0 hs b).symm)⟩ hsl
      · exact (keyD_tup e1 h).elim
    · cases h
  | _ => cases h
/-- a[lo:hi] -/
def rSlc (K : PySem.W.Frag) : V → Option Int → Option Int → Hp → VK → Prop := fun x lo hi H Q => ∃ I Fa d1 d G1, Good Fa H I ∧ Rep K H I x d1 G1 ∧ slcD d1 lo hi = some d ∧ Aft K Fa H I d Q
theorem cutD_map (xs : List D) (vs : List V) (lo hi : Option Int) (h : vs.length = xs.length) : cutV vs lo hi = (vs.drop (sIx xs.length 0 lo)).take (sIx xs.length xs.length hi - sIx xs.length 0 lo) := by
  unfold cutV
  rw [h]
  cases lo <;> cases hi <;> rfl
theorem sl_any : SlR X (rSlc X.K) := by
  intro pins s σ H x v vl vu lo hi sl Q J rx hs pl pu ⟨I, Fa, d1, d, G1, g, r1, h, a⟩
  cases d1 with
  | tup xs =>
    cases h
    obtain ⟨p, vs, rfl, s1, hz, rr⟩ := r1.tupR
    have el := rr.length
    have cut : Reps X.K H I (cutV vs lo hi) (cutD xs lo hi) (fun _ => 0) := by
      rw [cutD_map xs vs lo hi el]
      exact (rr.drop _ fun _ => rfl).take _ fun _ => rfl
    refine sl_tupA pins s σ H _ v vl vu lo hi sl Q J rx hs pl pu ⟨p, vs, rfl, s1, fun w => ?_, fun _ p' hp => a.tup g (Nat.le_trans (cutV_length _ _ _) hz) cut p' hp⟩
    have e0 : cutD xs lo hi = xs := by
      unfold cutD
      have w1 : sIx xs.length 0 lo = 0 := by rw [← el]; have := w.1; cases lo <;> exact this
      have w2 : sIx xs.length xs.length hi = xs.length := by rw [← el]; have := w.2; cases hi <;> exact this
      rw [w1, w2]
      simp
    rw [e0] at a
    exact a.same g (r1.eqF fun b => (r1.shd0 rfl b).symm)
  | lst o xs =>
    have h : (if xs.all shd then some (D.lst true (cutD xs lo hi)) else none) = some d := h
    split at h
    · rename_i hc
      cases h
      obtain ⟨p, vs, G, rfl, s1, hz, rr, _⟩ := r1.lstR
      have el := rr.length
      have cut : Reps X.K H I (cutV vs lo hi) (cutD xs lo hi) (fun _ => 0) := by
        rw [cutD_map xs vs lo hi el]
        exact ((rr.eqF fun b => (rr.shd0 hc b).symm).drop _ fun _ => rfl).take _ fun _ => rfl
      exact sl_list pins s σ H _ v vl vu lo hi sl Q J rx hs pl pu ⟨p, vs, rfl, .inl (.inl s1), fun p' hp => a.lst g (Nat.le_trans (cutV_length _ _ _) hz) cut p' hp⟩
    · cases h
  | _ => cases h

/-! ### built-ins called -/
def rBi (K : PySem.W.Frag) (f : String) : List V → Hp → VK → Prop := fun vs H Q => ∃ I Fa ds d, Good Fa H I ∧ Paired (fun (v : V) (d : D) => ∃ G, Rep K H I v d G ∧ ∀ b, G b ≤ Fa b) vs ds ∧ biD f ds = some d ∧ Aft K Fa H I d Q
theorem maxI_mem : ∀ {ns : List Int}, ns ≠ [] → maxI ns ∈ ns
  | [], h => absurd rfl h
  | [a], _ => by simp [maxI]
  | a :: b :: r, _ => by
    have ih := maxI_mem (ns := b :: r) (by simp)
    show max a (maxI (b :: r)) ∈ _
    rcases Int.le_total a (maxI (b :: r)) with h | h
    · rw [Int.max_eq_right h]; exact List.mem_cons_of_mem _ ih
    · rw [Int.max_eq_left h]; simp
theorem maxI_ge : ∀ {ns : List Int} {x : Int}, x ∈ ns → x ≤ maxI ns
  | [], _, h => by cases h
  | [a], x, h => by simp at h; subst h; exact Int.le_refl _
  | a :: b :: r, x, h => by
    show x ≤ max a (maxI (b :: r))
    rcases List.mem_cons.mp h with e | e
    · subst e; omega
    · have := maxI_ge (ns := b :: r) e; omega
theorem minI_mem : ∀ {ns : List Int}, ns ≠ [] → minI ns ∈ ns
  | [], h => absurd rfl h
  | [a], _ => by simp [minI]
  | a :: b :: r, _ => by
    have ih := minI_mem (ns := b :: r) (by simp)
    show min a (minI (b :: r)) ∈ _
    rcases Int.le_total a (minI (b :: r)) with h | h
    · rw [Int.min_eq_left h]; simp
    · rw [Int.min_eq_right h]; exact List.mem_cons_of_mem _ ih
theorem minI_le : ∀ {ns : List Int} {x : Int}, x ∈ ns → minI ns ≤ x
  | [], _, h => by cases h
  | [a], x, h => by simp at h; subst h; exact Int.le_refl _
  | a :: b :: r, x, h => by
    show min a (minI (b :: r)) ≤ x
    rcases List.mem_cons.mp h with e | e
    · subst e; omega
    · have := minI_le (ns := b :: r) e; omega
theorem ins_perm (x : Int) : ∀ l : List Int, (ins x l).Perm (x :: l)
  | [] => .refl _
  | y :: r => by
    unfold ins
    split
    · exact .refl _
    · exact (List.Perm.cons y (ins_perm x r)).trans (List.Perm.swap x y r)
theorem isort_perm : ∀ l : List Int, (isort l).Perm l
  | [] => .refl _
  | x :: r => (ins_perm x _).trans (List.Perm.cons x (isort_perm r))
theorem ins_sorted (x : Int) : ∀ {l : List Int}, l.Pairwise (· ≤ ·) → (ins x l).Pairwise (· ≤ ·)
  | [], _ => by simp [ins]
  | y :: r, h => by
    unfold ins
    split
    · rename_i c
      refine List.pairwise_cons.mpr ⟨fun z hz => ?_, h⟩
      rcases List.mem_cons.mp hz with e | e
      · subst e; exact c
      · exact Int.le_trans c ((List.pairwise_cons.mp h).1 z e)
    · rename_i c
      refine List.pairwise_cons.mpr ⟨fun z hz => ?_, ins_sorted x (List.pairwise_cons.mp h).2⟩
      rcases List.mem_cons.mp ((ins_perm x r).mem_iff.mp hz) with e | e
      · subst e; omega
      · exact (List.pairwise_cons.mp h).1 z e
theorem isort_sorted : ∀ l : List Int, (isort l).Pairwise (· ≤ ·)
  | [] => .nil
  | x :: r => ins_sorted x (isort_sorted r)
theorem sorted_uniq : ∀ {a b : List Int}, a.Perm b → a.Pairwise (· ≤ ·) → b.Pairwise (· ≤ ·) → a = b
  | [], b, p, _, _ => by cases p.nil_eq; rfl
  | x :: a, [], p, _, _ => by cases p.eq_nil
  | x :: a, y :: b, p, h1, h2 => by
    have e : x = y := by
      have m1 : x ∈ y :: b := p.mem_iff.mp (by simp)
      have m2 : y ∈ x :: a := p.mem_iff.mpr (by simp)
      rcases List.mem_cons.mp m1 with e | e
      · exact e
      · rcases List.mem_cons.mp m2 with e' | e'
        · exact e'.symm
        · have := (List.pairwise_cons.mp h1).1 y e'
          have := (List.pairwise_cons.mp h2).1 x e
          omega
    subst e
    rw [sorted_uniq (List.Perm.cons_inv p) (List.pairwise_cons.mp h1).2 (List.pairwise_cons.mp h2).2]
theorem one_of {K : PySem.W.Frag} {H : Hp} {I : AP} {Fa : Fp} {vs : List V} {d : D} (h : Paired (fun (v : V) (d : D) => ∃ G, Rep K H I v d G ∧ ∀ b, G b ≤ Fa b) vs [d]) : ∃ v G, vs = [v] ∧ Rep K H I v d G := by
  cases h with
  | cons a t =>
    cases t
    obtain ⟨G, r, _⟩ := a
    exact ⟨_, G, rfl, r⟩
theorem two_of {K : PySem.W.Frag} {H : Hp} {I : AP} {Fa : Fp} {vs : List V} {d e : D} (h : Paired (fun (v : V) (d : D) => ∃ G, Rep K H I v d G ∧ ∀ b, G b ≤ Fa b) vs [d, e]) : ∃ v u G G', vs = [v, u] ∧ Rep K H I v d G ∧ Rep K H I u e G' := by
  cases h with
  | cons a t =>
    cases t with
    | cons b t =>
      cases t
      obtain ⟨G, r, _⟩ := a
      obtain ⟨G', r', _⟩ := b
      exact ⟨_, _, G, G', rfl, r, r'⟩
theorem bi_len : CallR X (.builtin "len") (rBi X.K "len") := by
  intro pins s σ H xs us Q J r ⟨I, Fa, ds, d, g, pr, h, a⟩
  unfold biD at h
  split at h <;> first | (rename_i hf; exact absurd hf (by decide)) | skip
  · cases h
    obtain ⟨v, G, rfl, rr⟩ := one_of pr
    obtain ⟨p, vs, rfl, s1, _, rs⟩ := rr.tupR
    exact call_len_seq pins s σ H _ us Q J r ⟨p, vs, rfl, .inr s1, by rw [rs.length]; exact a.int g⟩
  · cases h
    obtain ⟨v, G, rfl, rr⟩ := one_of pr
    obtain ⟨p, vs, G', rfl, s1, _, rs, _⟩ := rr.lstR
    exact call_len_seq pins s σ H _ us Q J r ⟨p, vs, rfl, .inl (.inl (.inl s1)), by rw [rs.length]; exact a.int g⟩
  · cases h
    obtain ⟨v, G, rfl, rr⟩ := one_of pr
    cases rr with
    | frl ho hz hF => exact call_len_seq pins s σ H _ us Q J r ⟨_, _, rfl, .inl ho.sq, by rw [List.length_map]; exact a.int g⟩
  · cases h
    obtain ⟨v, G, rfl, rr⟩ := one_of pr
    rcases rr.dicR with ⟨p, ks, G', rfl, s1, e1, rs, _⟩ | ⟨p, ks, G', rfl, s1, hne, e1, rs, _⟩
    · exact call_lenD pins s σ H _ us Q J r ⟨p, ks, rfl, s1, by have := congrArg List.length e1; simp only [List.length_map] at this; rw [← this]; exact a.int g⟩
    · exact call_len_dT pins s σ H _ us Q J r ⟨p, ks, rfl, s1, by have := congrArg List.length e1; simp only [List.length_map] at this; rw [← this]; exact a.int g⟩
  · cases h
theorem bi_abs : CallR X (.builtin "abs") (rBi X.K "abs") := by
  intro pins s σ H xs us Q J r ⟨I, Fa, ds, d, g, pr, h, a⟩
  unfold biD at h
  split at h <;> first | (rename_i hf; exact absurd hf (by decide)) | skip
  · cases h
    obtain ⟨v, G, rfl, rr⟩ := one_of pr
    cases rr
    exact call_abs pins s σ H _ us Q J r ⟨_, rfl, a.int g⟩
  · cases h
theorem bi_int : CallR X (.type "int") (rBi X.K "int") := by
  intro pins s σ H xs us Q J r ⟨I, Fa, ds, d, g, pr, h, a⟩
  unfold biD at h
  split at h <;> first | (rename_i hf; exact absurd hf (by decide)) | skip
  · cases h
    obtain ⟨v, G, rfl, rr⟩ := one_of pr
    cases rr
    exact call_int1 pins s σ H _ us Q J r (.inl ⟨_, rfl, a.int g⟩)
  · cases h
    obtain ⟨v, G, rfl, rr⟩ := one_of pr
    cases rr
    exact call_int1 pins s σ H _ us Q J r (.inr ⟨_, rfl, a.int g⟩)
  · cases h
theorem bi_max (hcalm : X.calm = true) : CallR X (.builtin "max") (rBi X.K "max") := by
  intro pins s σ H xs us Q J r ⟨I, Fa, ds, d, g, pr, h, a⟩
  unfold biD at h
  split at h <;> first | (rename_i hf; exact absurd hf (by decide)) | skip
  · cases h
    obtain ⟨v, u, G, G', rfl, r1, r2⟩ := two_of pr
    cases r1
    cases r2
    exact call_max2 hcalm pins s σ H _ us Q J r ⟨_, _, rfl, a.int g⟩
  · rename_i o xs _
    split at h
    · cases h
    · rename_i hne
      cases e : intsOf xs with
      | none => rw [e] at h; cases h
      | some ns =>
        rw [e] at h
        cases h
        obtain ⟨v, G, rfl, rr⟩ := one_of pr
        obtain ⟨p, vs, G', rfl, s1, hz, rs, _⟩ := rr.lstR
        obtain ⟨e1, e2⟩ := rs.ints e
        subst e1
        have hn : ns ≠ [] := fun z => by subst z; subst e2; exact hne rfl
        refine cr_max hcalm pins s σ H _ us Q J r ⟨p, ns, rfl, .inl (.inl s1), by cases ns with | nil => exact absurd rfl hn | cons _ _ => simp, fun m hm hall => ?_⟩
        have e3 : m = maxI ns := by have h1 := maxI_ge hm; have h2 := hall _ (maxI_mem hn); omega
        rw [e3]
        exact a.int g
  · cases h
theorem bi_min (hcalm : X.calm = true) : CallR X (.builtin "min") (rBi X.K "min") := by
  intro pins s σ H xs us Q J r ⟨I, Fa, ds, d, g, pr, h, a⟩
  unfold biD at h
  split at h <;> first | (rename_i hf; exact absurd hf (by decide)) | skip
  · cases h
    obtain ⟨v, u, G, G', rfl, r1, r2⟩ := two_of pr
    cases r1
    cases r2
    exact call_min2 hcalm pins s σ H _ us Q J r ⟨_, _, rfl, a.int g⟩
  · rename_i o xs _
    split at h
    · cases h
    · rename_i hne
      cases e : intsOf xs with
      | none => rw [e] at h; cases h
      | some ns =>
        rw [e] at h
        cases h
        obtain ⟨v, G, rfl, rr⟩ := one_of pr
        obtain ⟨p, vs, G', rfl, s1, hz, rs, _⟩ := rr.lstR
        obtain ⟨e1, e2⟩ := rs.ints e
        subst e1
        have hn : ns ≠ [] := fun z => by subst z; subst e2; exact hne rfl
        refine cr_min hcalm pins s σ H _ us Q J r ⟨p, ns, rfl, .inl (.inl s1), by cases ns with | nil => exact absurd rfl hn | cons _ _ => simp, fun m hm hall => ?_⟩
        have e3 : m = minI ns := by have h1 := minI_le hm; have h2 := hall _ (minI_mem hn); omega
        rw [e3]
        exact a.int g
  · cases h
theorem bi_sum (hcalm : X.calm = true) : CallR X (.builtin "sum") (rBi X.K "sum") := by
  intro pins s σ H xs us Q J r ⟨I, Fa, ds, d, g, pr, h, a⟩
  unfold biD at h
  split at h <;> first | (rename_i hf; exact absurd hf (by decide)) | skip
  · rename_i o xs _
    cases e : intsOf xs with
    | none => rw [e] at h; cases h
    | some ns =>
      rw [e] at h
      cases h
      obtain ⟨v, G, rfl, rr⟩ := one_of pr
      obtain ⟨p, vs, G', rfl, s1, hz, rs, _⟩ := rr.lstR
      obtain ⟨e1, e2⟩ := rs.ints e
      subst e1
      exact cr_sum hcalm pins s σ H _ us Q J r ⟨p, ns, rfl, .inl (.inl s1), a.int g⟩
  · cases h
theorem bi_all (hcalm : X.calm = true) : CallR X (.builtin "all") (rBi X.K "all") := by
  intro pins s σ H xs us Q J r ⟨I, Fa, ds, d, g, pr, h, a⟩
  unfold biD at h
  split at h <;> first | (rename_i hf; exact absurd hf (by decide)) | skip
  · rename_i o xs _
    cases e : blsOf xs with
    | none => rw [e] at h; cases h
    | some ns =>
      rw [e] at h
      cases h
      obtain ⟨v, G, rfl, rr⟩ := one_of pr
      obtain ⟨p, vs, G', rfl, s1, hz, rs, _⟩ := rr.lstR
      have e1 := rs.bls e
      subst e1
      exact cr_all hcalm pins s σ H _ us Q J r ⟨p, ns, rfl, .inl (.inl s1), a.bl g⟩
  · cases h
theorem bi_any (hcalm : X.calm = true) : CallR X (.builtin "any") (rBi X.K "any") := by
  intro pins s σ H xs us Q J r ⟨I, Fa, ds, d, g, pr, h, a⟩
  unfold biD at h
  split at h <;> first | (rename_i hf; exact absurd hf (by decide)) | skip
  · rename_i o xs _
    cases e : blsOf xs with
    | none => rw [e] at h; cases h
    | some ns =>
      rw [e] at h
      cases h
      obtain ⟨v, G, rfl, rr⟩ := one_of pr
      obtain ⟨p, vs, G', rfl, s1, hz, rs, _⟩ := rr.lstR
      have e1 := rs.bls e
      subst e1
      exact cr_any hcalm pins s σ H _ us Q J r ⟨p, ns, rfl, .inl (.inl s1), a.bl g⟩
  · cases h
theorem bi_list : CallR X (.type "list") (rBi X.K "list") := by
  intro pins s σ H xs us Q J r ⟨I, Fa, ds, d, g, pr, h, a⟩
  unfold biD at h
  split at h <;> first | (rename_i hf; exact absurd hf (by decide)) | skip
  · cases h
    obtain ⟨v, G, rfl, rr⟩ := one_of pr
    obtain ⟨p, vs, rfl, s1, hz, rs⟩ := rr.tupR
    exact call_list_of pins s σ H _ us Q J r ⟨p, vs, rfl, .inr s1, fun l hl => a.lst g hz rs l hl⟩
  · split at h
    · rename_i hc
      cases h
      obtain ⟨v, G, rfl, rr⟩ := one_of pr
      obtain ⟨p, vs, G', rfl, s1, hz, rs, _⟩ := rr.lstR
      exact call_list_of pins s σ H _ us Q J r ⟨p, vs, rfl, .inl (.inl (.inl s1)), fun l hl => a.lst g hz (rs.eqF fun b => (rs.shd0 hc b).symm) l hl⟩
    · cases h
  · cases h
theorem bi_tuple : CallR X (.type "tuple") (rBi X.K "tuple") := by
  intro pins s σ H xs us Q J r ⟨I, Fa, ds, d, g, pr, h, a⟩
  unfold biD at h
  split at h <;> first | (rename_i hf; exact absurd hf (by decide)) | skip
  · cases h
    obtain ⟨v, G, rfl, rr⟩ := one_of pr
    have r0 := rr.eqF fun b => (rr.shd0 rfl b).symm
    obtain ⟨p, vs, rfl, s1, hz, rs⟩ := rr.tupR
    exact call_tuple_of pins s σ H _ us Q J r ⟨p, vs, rfl, .inr ⟨s1, a.same g r0⟩⟩
  · split at h
    · rename_i hc
      cases h
      obtain ⟨v, G, rfl, rr⟩ := one_of pr
      obtain ⟨p, vs, G', rfl, s1, hz, rs, _⟩ := rr.lstR
      exact call_tuple_of pins s σ H _ us Q J r ⟨p, vs, rfl, .inl ⟨.inl (.inl s1), fun l hl => a.tup g hz (rs.eqF fun b => (rs.shd0 hc b).symm) l hl⟩⟩
    · cases h
  · cases h
theorem bi_sorted (hcalm : X.calm = true) : CallR X (.builtin "sorted") (rBi X.K "sorted") := by
  intro pins s σ H xs us Q J r ⟨I, Fa, ds, d, g, pr, h, a⟩
  unfold biD at h
  split at h <;> first | (rename_i hf; exact absurd hf (by decide)) | skip
  · rename_i o xs _
    cases e : intsOf xs with
    | none => rw [e] at h; cases h
    | some ns =>
      rw [e] at h
      cases h
      obtain ⟨v, G, rfl, rr⟩ := one_of pr
      obtain ⟨p, vs, G', rfl, s1, hz, rs, _⟩ := rr.lstR
      obtain ⟨e1, e2⟩ := rs.ints e
      subst e1
      refine cr_sortedI pins s σ H _ us Q J r ⟨p, ns, rfl, .inl (.inl s1), fun ns' q hp hs hn => ?_⟩
      have e3 : ns' = isort ns := sorted_uniq (hp.trans (isort_perm ns).symm) hs (isort_sorted ns)
      subst e3
      exact a.lst g (by rw [List.length_map, (isort_perm ns).length_eq]; rw [List.length_map] at hz; exact hz) (reps_ints _) q hn
  · rename_i o kvs _
    split at h
    · rename_i hc
      have hc := of_decide_eq_true hc
      cases e : intsOf (kvs.map (·.1)) with
      | none => rw [e] at h; cases h
      | some ns =>
        rw [e] at h
        cases h
        obtain ⟨v, G, rfl, rr⟩ := one_of pr
        have kk : ∀ {ns : List Int} {ds : List D}, intsOf ds = some ns → ds = ns.map D.int := by
          intro ns ds
          induction ds generalizing ns with
          | nil => intro h; cases h; rfl
          | cons d ds ih =>
            intro h
            cases d with
            | int i =>
              have h : (intsOf ds).map (i :: ·) = some _ := h
              cases q : intsOf ds with
              | none => rw [q] at h; cases h
              | some r => rw [q] at h; cases h; rw [ih q]; rfl
            | _ => cases h
        have e0 := kk e
        rcases rr.dicR with ⟨p, ks, G', rfl, s1, e1, rs, _⟩ | ⟨p, ks, G', rfl, s1, hne, e1, rs, _⟩
        · have e4 : ∀ {ks : List (Key × V)} {ns : List Int}, ks.map (fun p => kD p.1) = ns.map D.int → ks.map (·.1) = ns.map Sum.inl := by
            intro ks
            induction ks with
            | nil => intro ns h; cases ns with
              | nil => rfl
              | cons _ _ => cases h
            | cons k ks ih => intro ns h; cases ns with
              | nil => cases h
              | cons n ns =>
                simp only [List.map_cons, List.cons.injEq] at h
                obtain ⟨k, w⟩ := k
                cases k with
                | inl i => obtain ⟨h1, h2⟩ := h; cases h1; simp only [List.map_cons]; rw [ih h2]
                | inr x => cases h.1
          have e5 := e4 (e1.symm.trans e0)
          have hl : ns.length < 64 := by have := congrArg List.length e0; simp only [List.length_map] at this; omega
          refine call_sortedDI hcalm pins s σ H _ us Q J r ⟨p, ks, ns, rfl, .inl s1, e5, hl, fun ns' q hp hs hn => ?_⟩
          have e3 : ns' = isort ns := sorted_uniq (hp.trans (isort_perm ns).symm) hs (isort_sorted ns)
          subst e3
          exact a.lst g (by rw [List.length_map, (isort_perm ns).length_eq, sizeLine_lit]; omega) (reps_ints _) q hn
        · cases ks with
          | nil => exact absurd rfl hne
          | cons k ks =>
            exfalso
            rw [e0] at e1
            cases ns with
            | nil => cases e1
            | cons n ns => cases e1
    · cases h
  · cases h
end
end DE
/-! # DeI: lists of expressions, displays, tests, choices -/
namespace DE
open PySem PySem.Spec PyProof.Rows L2

theorem Out.bind_assoc {α β γ : Type} (x : Out α) (f : α → Env → Out β) (g : β → Env → Out γ) : (x.bind f).bind g = x.bind fun a r => (f a r).bind g := by cases x <;> rfl
def OpdsRel (K : PySem.W.Frag) (H : Hp) (I : AP) (σ : L2.St) : List V → List Opd → Fp → Prop
  | [], [], G => ∀ b, G b = 0
  | v :: vs, x :: xs, G => ∃ G1 G2, OpdRel K H I σ v x G1 ∧ OpdsRel K H I σ vs xs G2 ∧ ∀ b, G b = G1 b + G2 b
  | _, _, _ => False
def rOs (K : PySem.W.Frag) : L2.St → RelR (List Opd) (List V) := fun σ H I vs xs G => OpdsRel K H I σ vs xs G
abbrev RAs (X : Cx) (W : WishX) (c : Ctx) (ps : PXs) : TA := Rd X.K W (rOs X.K) (evs c ps)

section
variable {K : PySem.W.Frag} {W : WishX} {σ : L2.St} {o : Org} {ρ : Env} {H : Hp} {I : AP} {F : Fp} {T : List Tmp}
/-- several operands put behind the others -/
theorem OpdsRel.tmps : ∀ {vs : List V} {xs : List Opd} {G : Fp}, OpdsRel K H I σ vs xs G → ∃ T : List Tmp, T.map (·.v) = vs ∧ T.map (·.o) = xs ∧ (∀ t ∈ T, OpdRel K H I σ t.v t.o t.G) ∧ ∀ b, G b = tfp T b
  | [], [], G, h => ⟨[], rfl, rfl, (fun _ z => nomatch z), h⟩
  | v :: vs, x :: xs, G, ⟨G1, G2, h1, h2, h3⟩ => by
    obtain ⟨T, a, b, d, e⟩ := OpdsRel.tmps h2
    refine ⟨⟨v, x, G1⟩ :: T, by rw [List.map_cons, a], by rw [List.map_cons, b], fun t ht => ?_, fun z => ?_⟩
    · rcases List.mem_cons.mp ht with q | q
      · subst q; exact h1
      · exact d t q
    · rw [h3 z, e z]; rfl
  | [], _ :: _, _, h => h.elim
  | _ :: _, [], _, h => h.elim
theorem OpdsRel.of : ∀ {T : List Tmp}, (∀ t ∈ T, OpdRel K H I σ t.v t.o t.G) → OpdsRel K H I σ (T.map (·.v)) (T.map (·.o)) (tfp T)
  | [], _ => fun _ => rfl
  | t :: T, h => ⟨t.G, tfp T, h t (by simp), OpdsRel.of fun u hu => h u (by simp [hu]), fun _ => rfl⟩
theorem Cur.runAs {γ δ : Type} {relQ : RelR γ δ} {Q : δ → Hp → Prop} {g : Env → Out (List Opd)} {k : List Opd → Env → Out γ} (c : Cur K σ o ρ H I F T) (p : Post K W σ o relQ Q ((g ρ).bind k)) {R : List V → Hp → Prop}
    (h : ∀ T' H' ρ' I' F', Cur K σ o ρ' H' I' F' (T ++ T') → Post K W σ o relQ Q (k (T'.map (·.o)) ρ') → R (T'.map (·.v)) H') : Rd K W (rOs K) g σ H R := by
  refine (c.run (rel := rOs K) p).mono ?_
  rintro vs H' ⟨xs, ρ', I', F', G, s, r, tm, rr, p'⟩
  obtain ⟨T', e1, e2, e3, e4⟩ := OpdsRel.tmps rr
  subst e1 e2
  refine h T' H' ρ' I' F' ⟨s.eqF fun b => by rw [tfp_app, e4 b]; omega, r, fun t ht => ?_⟩ p'
  rcases List.mem_append.mp ht with z | z
  · exact tm t z
  · exact e3 t z
theorem rd_list {β δ : Type} {rel : L2.St → RelR β δ} {g1 : Env → Out (List Opd)} {k : List Opd → Env → Out β} {Q : δ → Hp → Prop} {R : List V → Hp → Prop}
    (h : Rd K W rel (fun ρ => (g1 ρ).bind fun x ρ => k x ρ) σ H Q)
    (hk : ∀ o T ρ H I F, Cur K σ o ρ H I F T → Post K W σ o (rel σ) Q (k (T.map (·.o)) ρ) → R (T.map (·.v)) H) :
    Rd K W (rOs K) g1 σ H fun v H1 => R v H1 := by
  obtain ⟨o, ρ, e1, g, r, ps⟩ := h
  subst e1
  exact (Cur.start g r).runAs ps fun T' H' ρ' I' F' c' p' => hk o T' ρ' H' I' F' c' p'
/-- the written items are shared -/
theorem Cur.shareO {γ δ : Type} {relQ : RelR γ δ} {Q : δ → Hp → Prop} {k : List D → Env → Out γ} : ∀ {T : List Tmp} {ρ : Env} {I : AP} {F : Fp}, Cur K σ o ρ H I F T → Post K W σ o relQ Q ((shareO (T.map (·.o)) ρ).bind k) →
    ∃ ds ρ' I' F', Cur K σ o ρ' H I' F' [] ∧ Reps K H I' (T.map (·.v)) ds (fun _ => 0) ∧ (∀ b, I b → I' b) ∧ Post K W σ o relQ Q (k ds ρ')
  | [], ρ, I, F, c, p => ⟨[], ρ, I, F, c, .nil fun _ => rfl, fun _ h => h, p⟩
  | t :: T, ρ, I, F, c, p => by
    obtain ⟨v, op, G⟩ := t
    have rest : ∀ {I'' : AP} {F'' : Fp} {ρ'' : Env} {d : D}, (∀ b, I b → I'' b) → Cur K σ o ρ'' H I'' F'' T → Rep K H I'' v d (fun _ => 0) → Post K W σ o relQ Q (((DE.shareO (T.map (·.o)) ρ'').bind fun ds ρ => .ok (d :: ds) ρ).bind k) →
        ∃ ds ρ' I' F', Cur K σ o ρ' H I' F' [] ∧ Reps K H I' ((⟨v, op, G⟩ :: T : List Tmp).map (·.v)) ds (fun _ => 0) ∧ (∀ b, I b → I' b) ∧ Post K W σ o relQ Q (k ds ρ') := fun {I'' F'' ρ'' d} hI c' r p' => by
      rw [Out.bind_assoc] at p'
      obtain ⟨ds, ρ', I', F', c2, rs, hI', p2⟩ := Cur.shareO (k := fun ds ρ => k (d :: ds) ρ) c' p'
      exact ⟨d :: ds, ρ', I', F', c2, .cons (r.up hI') rs (fun _ => rfl), fun b h => hI' b (hI b h), p2⟩
    cases op with
    | val d =>
      have r : Rep K H I v d G := c.tm ⟨v, .val d, G⟩ (by simp)
      have gd : Good (fun b => (F b + tfp T b) + G b) H I := c.good.mono fun b => by show F b + tfp T b + G b ≤ F b + (G b + tfp T b); omega
      have s := Step.share gd
      have sG : Step (fun b => (fun _ => 0 : Fp) b + G b) H I (fun _ => 0) H (isIm I G) := Step.share (gd.mono fun b => by omega)
      refine rest (I'' := isIm I G) (F'' := F) (fun b h => .inl h) ⟨c.st.trans (s.from (G := fun _ => 0) (gd.mono fun b => by omega) fun b => by show F b + (G b + tfp T b) = F b + tfp T b + G b + 0; omega) |>.eqF fun b => by omega, c.env.mono (fun b h => .inl h) fun _ _ _ e => e, fun t ht => ?_⟩ (r.share (isIm I G) fun b z => z) p
      exact OpdRel.step (c.tm t (by simp [ht])) sG (gd.mono fun b => by have := tfp_mem ht b; dsimp only; omega)
    | slot i =>
      have p : Post K W σ o relQ Q (((readV i ρ).bind fun d ρ => (DE.shareO (T.map (·.o)) ρ).bind fun ds ρ => .ok (d :: ds) ρ).bind k) := p
      obtain ⟨hv, hG⟩ : σ[i]? = some (some v) ∧ ∀ b, G b = 0 := c.tm ⟨v, .slot i, G⟩ (by simp)
      unfold readV at p
      cases e : (ρ[i]?).join with
      | none => rw [e] at p; exact False.elim p
      | some d =>
        rw [e] at p
        dsimp only at p
        split at p
        · rename_i hs
          have e2 : ρ[i]? = some (some d) := by
            cases q : ρ[i]? with
            | none => rw [q] at e; cases e
            | some z => rw [q] at e; exact congrArg some e
          obtain ⟨v', G', h1, h2, h3⟩ := c.env.get e2
          rw [hv] at h1
          cases h1
          refine rest (I'' := I) (F'' := F) (fun b h => h) ⟨c.st.weak fun b => ?_, c.env, fun t ht => c.tm t (by simp [ht])⟩ (h2.eqF fun b => (h2.shd0 hs b).symm) p
          show F b + tfp T b ≤ F b + (G b + tfp T b); omega
        · obtain ⟨v', I', F', h1, h2, h3, h4, _⟩ := c.freeze e
          rw [hv] at h1
          cases h1
          refine rest (I'' := I') (F'' := F') h4 ⟨h3.st.weak fun b => ?_, h3.env, fun t ht => h3.tm t (by simp [ht])⟩ h2 p
          show F' b + tfp T b ≤ F' b + (G b + tfp T b); omega
/-- the operands with their values -/
theorem Cur.opds (c : Cur K σ o ρ H I F T) {f : List D → Option D} {Q : VK} (p : Post K W σ o (rD K σ) Q (DE.opN f (T.map (·.o)) ρ)) :
    ∃ ds z, Paired (fun (v : V) (d : D) => ∃ G, Rep K H I v d G ∧ ∀ b, G b ≤ F b + tfp T b) (T.map (·.v)) ds ∧ f ds = some z ∧ Aft K (fun b => F b + tfp T b) H I z Q := by
  refine c.opN ?_ p
  have aux : ∀ T' : List Tmp, (∀ t ∈ T', t ∈ T) → Paired (fun (v : V) (x : Opd) => ∃ t ∈ T, t.v = v ∧ t.o = x) (T'.map (·.v)) (T'.map (·.o)) := by
    intro T'
    induction T' with
    | nil => intro _; exact .nil
    | cons t r ih => intro h; exact .cons ⟨t, h t (by simp), rfl, rfl⟩ (ih fun u hu => h u (by simp [hu]))
  exact aux T fun _ h => h
end

section
variable {X : Cx} {W : WishX} {c : Ctx} {e a b : Expr} {es : List Expr} {p q : PX} {ps : PXs} {pos : Pos}
theorem as_nil : PA X [] (RAs X W c .nil) := ⟨fun pos pins s σ H Q J ⟨o, ρ, e1, g, r, p⟩ => by
  subst e1
  exact Calls.spliced_nil ⟨[], o.H, J, .nil, p [] o.H o.I o.F (fun _ => 0) ((Step.refl g).eqF fun b => by omega) r fun _ => rfl⟩⟩
theorem starEach_cons (h : isStar e = false) (env : PySem.Env) : starEach (e :: es) env = (false, eval e env) :: starEach es env := by
  cases e <;> first | rfl | cases h
theorem PA.imp {t t' : TA} (h : PA X es t) (w : ∀ σ H Q, t' σ H Q → t σ H Q) : PA X es t' := ⟨fun pos pins s σ H Q I q => h.run pos pins s σ H Q I (w _ _ _ q)⟩
theorem as_cons (hs : isStar e = false) (h1 : EOk X W c e p) (h2 : PA X es (RAs X W c ps)) : PA X (e :: es) (RAs X W c (.cons p ps)) := by
  refine PA.imp (pa_cons h1.opd h2 (starEach_cons hs _)) fun σ H Q ⟨o, ρ, e1, g, r, pp⟩ => ?_
  subst e1
  have pp : Post X.K W σ o (rOs X.K σ) Q ((mkOpd p (ev c p) ρ).bind fun x ρ => (evs c ps ρ).bind fun xs ρ => .ok (x :: xs) ρ) := pp
  refine (Cur.start g r).runO pp fun v H1 x ρ1 I1 F1 G1 c1 p1 => ?_
  refine c1.runAs p1 fun T' H' ρ' I' F' c2 p2 => ?_
  refine p2 (v :: T'.map (·.v)) H' I' F' (fun b => G1 b + tfp T' b) (c2.st.eqF fun b => ?_) c2.env ⟨G1, tfp T', ?_, OpdsRel.of fun t ht => c2.tm t (by simp [ht]), fun _ => rfl⟩
  · show F' b + (G1 b + tfp T' b) = F' b + (G1 b + tfp T' b); rfl
  · exact c2.tm ⟨v, x, G1⟩ (by simp)
theorem sizeLine_of {T : List Tmp} {ds : List D} {K : PySem.W.Frag} {H : Hp} {I : AP} {F : Fp} (r : Reps K H I (T.map (·.v)) ds F) (h : sizeOk ds.length = true) : (T.map (·.v)).length ≤ sizeLine := by rw [r.length]; exact sizeOk_le h
theorem eo_tup {k : Nat} (h : PA X es (RAs X W c ps)) : EOk X W c (.Tuple es k pos) (.tupD ps) := by
  refine .of (fun _ z => nomatch z) ((pe_tup h).imp fun σ H Q hh => rd_list (rel := rD X.K) hh fun o T ρ H I F cu pp => ?_)
  obtain ⟨ds, ρ', I', F', c2, rs, hI, p2⟩ := cu.shareO pp
  by_cases hz : sizeOk ds.length = true
  · rw [if_pos hz] at p2
    refine ⟨sizeLine_of rs hz, fun a ha => ?_⟩
    exact (c2.aft p2).tup c2.good (sizeLine_of rs hz) rs a ha
  · rw [if_neg hz] at p2; exact False.elim p2
theorem eo_lst (h : PA X es (RAs X W c ps)) : EOk X W c (.List es pos) (.lstD ps) := by
  refine .of (fun _ z => nomatch z) ((pe_lst h).imp fun σ H Q hh => rd_list (rel := rD X.K) hh fun o T ρ H I F cu pp => ?_)
  obtain ⟨ds, ρ', I', F', c2, rs, hI, p2⟩ := cu.shareO pp
  by_cases hz : sizeOk ds.length = true
  · rw [if_pos hz] at p2
    refine ⟨sizeLine_of rs hz, fun a ha => ?_⟩
    exact (c2.aft p2).lst c2.good (sizeLine_of rs hz) rs a ha
  · rw [if_neg hz] at p2; exact False.elim p2
theorem eo_dic0 : EOk X W c (.Dict [] [] pos) .dic0 := by
  refine .of (fun _ z => nomatch z) (pe_dnewK.imp fun σ H Q ⟨o, ρ, e1, g, r, pp⟩ => ?_)
  subst e1
  intro a ha
  have cu := Cur.start g r
  have s := Step.newObj (o := .dK []) cu.good ha
  exact cu.aft pp (.ref a) _ _ (sing a) (same_upd ha) s (.dKO (kvs := []) (ds := []) upd_same rfl (.nil fun _ => rfl) fun b => rfl)
/-- a built-in that is called -/
theorem eo_biB {f : String} {x : Str} {p0 : Pos} (hc : CallR X (.builtin f) (rBi X.K f)) (hg : Gl X x) (hm : X.mg x = none) (hv : bootBuiltins x = some (.builtin f)) (hn : x ≠ "__name__") (hd : (x == ("__debug__" : Str)) = false) (hs : isStar e = false)
    (h : PA X (e :: es) (RAs X W c ps)) (hst : es.any isStar = false) : EOk X W c (.Call (.Name x p0) (e :: es) [] pos) (.bi f ps) := by
  have hpl : ∀ {es : List Expr}, es.any isStar = false → (backTo pos (starEach es X.env)).any (·.1) = false := by
    intro es
    induction es with
    | nil => intro _; rfl
    | cons e es ih =>
      intro h
      rw [List.any_cons, Bool.or_eq_false_iff] at h
      rw [starEach_cons h.1]
      exact ih h.2
  refine .of (fun _ z => nomatch z) ((pe_callB hc hg hm hv h hn hd (starEach_cons hs _) (hpl hst)).imp fun σ H Q hh => rd_list (rel := rD X.K) hh fun o T ρ H I F cu pp => ?_)
  obtain ⟨ds, z, pr, h1, a⟩ := cu.opds pp
  exact ⟨I, _, ds, z, cu.good, pr, h1, a⟩
theorem eo_biT {f : String} {x : Str} {p0 : Pos} (hc : CallR X (.type f) (rBi X.K f)) (hg : Gl X x) (hm : X.mg x = none) (hv : bootBuiltins x = some (.type f)) (hn : x ≠ "__name__") (hd : (x == ("__debug__" : Str)) = false) (hs : isStar e = false)
    (h : PA X (e :: es) (RAs X W c ps)) (hst : es.any isStar = false) : EOk X W c (.Call (.Name x p0) (e :: es) [] pos) (.bi f ps) := by
  have hpl : ∀ {es : List Expr}, es.any isStar = false → (backTo pos (starEach es X.env)).any (·.1) = false := by
    intro es
    induction es with
    | nil => intro _; rfl
    | cons e es ih =>
      intro h
      rw [List.any_cons, Bool.or_eq_false_iff] at h
      rw [starEach_cons h.1]
      exact ih h.2
  refine .of (fun _ z => nomatch z) ((pe_callTy hc hg hm hv h hn hd (starEach_cons hs _) (hpl hst)).imp fun σ H Q hh => rd_list (rel := rD X.K) hh fun o T ρ H I F cu pp => ?_)
  obtain ⟨ds, z, pr, h1, a⟩ := cu.opds pp
  exact ⟨I, _, ds, z, cu.good, pr, h1, a⟩
theorem eo_sub (hu : X.A.units + 66 < cLine) (ha : EOk X W c a p) (hb : EOk X W c b q) (hs : isSlice b = false) : EOk X W c (.Subscript a b pos) (.sub p q) := by
  have hpl : PlainIx b := fun o i => by cases b <;> first | rfl | cases hs
  refine .of (fun _ z => nomatch z) ((pe_ix (ix_any hu) ha.opd hb.opd hpl).imp fun σ H Q h => rd_two (γ := Unit) (rel := rD X.K) h fun o v u x y ρ H I F G1 G2 cu pp => ?_)
  unfold subO at pp
  cases e : x.get ρ with
  | none => rw [e] at pp; exact False.elim pp
  | some d =>
    cases e2 : y.get ρ with
    | none => rw [e, e2] at pp; exact False.elim pp
    | some d2 =>
      rw [e, e2] at pp
      obtain ⟨G, r, hG⟩ := cu.opd (t := ⟨v, x, G1⟩) (by simp) e
      obtain ⟨G', r', hG'⟩ := cu.opd (t := ⟨u, y, G2⟩) (by simp) e2
      cases h1 : subD d d2 with
      | none => simp only [h1] at pp; exact False.elim pp
      | some z =>
        simp only [h1] at pp
        by_cases hz : shd z = true
        · rw [if_pos hz] at pp
          exact ⟨I, d, d2, z, G, G', r, r', h1, hz, fun w rw' => (cu.aft pp).same cu.good rw'⟩
        · rw [if_neg hz] at pp; exact False.elim pp
theorem eo_rev {k : Nat} {p1 p2 p3 : Pos} (ha : EOk X W c a p) : EOk X W c (.Subscript a (.Slice none none (some (.UnaryOp .USub (.Constant (.int 1) k p1) p2)) p3) pos) (.rev p) := by
  refine .of (fun _ z => nomatch z) ((pe_revL ha.opd).imp fun σ H Q h => rd_one (rel := rD X.K) h fun o v x ρ H I F G1 cu pp => ?_)
  obtain ⟨d, e, G, r1, l1, h, af⟩ := cu.op1 (x := ⟨v, x, G1⟩) (by simp) pp
  cases d with
  | lst o xs =>
    have h : (if xs.all shd then some (D.lst true xs.reverse) else none) = some e := h
    split at h
    · rename_i hc
      cases h
      obtain ⟨ad, vs, G', e1, s1, hz, rs, _⟩ := r1.lstR
      exact ⟨ad, vs, e1, .inl (.inl s1), fun l hl => af.lst cu.good (by rw [List.length_reverse]; exact hz) ((rs.eqF fun b => (rs.shd0 hc b).symm).reverse) l hl⟩
    · cases h
  | _ => cases h
theorem eo_isN {j : Nat} {p0 : Pos} (ha : EOk X W c a p) : EOk X W c (.Compare a [.Is] [.Constant .none j p0] pos) (.isN false p) := by
  refine .of (fun _ z => nomatch z) ((pe_cmp (pc_isN ha.opd) rfl).imp fun σ H Q h => rd_one (rel := rD X.K) h fun o v x ρ H I F G1 cu pp => ?_)
  obtain ⟨d, e, G, r1, l1, h, af⟩ := cu.op1 (x := ⟨v, x, G1⟩) (by simp) pp
  cases r1 <;> (cases h; exact af.bl cu.good)
theorem eo_notN {j : Nat} {p0 : Pos} (ha : EOk X W c a p) : EOk X W c (.Compare a [.IsNot] [.Constant .none j p0] pos) (.isN true p) := by
  refine .of (fun _ z => nomatch z) ((pe_cmp (pc_notN ha.opd) rfl).imp fun σ H Q h => rd_one (rel := rD X.K) h fun o v x ρ H I F G1 cu pp => ?_)
  obtain ⟨d, e, G, r1, l1, h, af⟩ := cu.op1 (x := ⟨v, x, G1⟩) (by simp) pp
  cases r1 <;> (cases h; exact af.bl cu.good)
theorem eo_not (ha : EOk X W c a p) : EOk X W c (.UnaryOp .Not a pos) (.notE p) := by
  refine .of (fun _ z => nomatch z) ((pe_notT ha.opd).imp fun σ H Q h => rd_one (rel := rD X.K) h fun o v x ρ H I F G1 cu pp => ?_)
  obtain ⟨d, e, G, r1, l1, h, af⟩ := cu.op1 (x := ⟨v, x, G1⟩) (by simp) pp
  have h : (truD d).map (fun b => D.bl (!b)) = some e := h
  cases q : truD d with
  | none => rw [q] at h; cases h
  | some k =>
    rw [q] at h
    cases h
    exact ⟨k, truV_of r1 q, af.bl cu.good⟩
end
end DE
/-! # DeJ: isinstance, chains, and, or, choices, slices, tests -/
namespace DE
open PySem PySem.Spec PyProof.Rows L2

section
variable {K : PySem.W.Frag} {W : WishX} {σ : L2.St} {o : Org} {ρ : Env} {H : Hp} {I : AP} {F : Fp} {T : List Tmp}
/-- something new came, nothing changed -/
theorem Cur.ext {H' : Hp} {I' : AP} {G : Fp} (c : Cur K σ o ρ H I F T) (k : ∀ b u, H b = some u → H' b = some u) (s : Step (fun b => F b + tfp T b) H I (fun b => (F b + tfp T b) + G b) H' I') : Cur K σ o ρ H' I' F T :=
  ⟨(c.st.trans s).weak fun b => by omega, c.env.mono s.mono fun b u _ e => k b u e, fun t ht => by
    have h := c.tm t ht
    obtain ⟨v, op, G'⟩ := t
    cases op with
    | slot i => exact h
    | val d => exact (Rep.mono s.mono).1 (show Rep K H I v d G' from h) fun b u _ e => k b u e⟩
/-- the last part -/
theorem Cur.tail {α β : Type} {rel : RelR α β} {Q : β → Hp → Prop} {g : Env → Out α} (c : Cur K σ o ρ H I F T) (p : Post K W σ o rel Q (g ρ)) {relS : L2.St → RelR α β} (e : relS σ = rel) : Rd K W relS g σ H Q := by
  subst e
  have p' : Post K W σ o (relS σ) Q ((g ρ).bind fun a ρ => .ok a ρ) := by
    have e : (g ρ).bind (fun a ρ => Out.ok a ρ) = g ρ := by cases g ρ <;> rfl
    rw [e]; exact p
  refine (c.run (rel := relS) p').mono ?_
  rintro b H' ⟨a, ρ', I', F', G, s, r, tm, rr, p2⟩
  exact p2 b H' I' F' G (s.weak fun b => by omega) r rr
end

section
variable {X : Cx} {W : WishX} {c : Ctx} {e a b d : Expr} {es : List Expr} {p q r : PX} {pos : Pos}
/-! ### isinstance -/
theorem tyX_of {K : PySem.W.Frag} {H : Hp} {I : AP} {v : V} {d : D} {F : Fp} (r : Rep K H I v d F) : TyX K H v (.type (tyD d)) := by
  cases r with
  | non _ => exact .base .non
  | bl x _ => exact .base (.bl x)
  | int x _ => exact .base (.int x)
  | str x _ => exact .base (.str x)
  | tup _ h _ _ _ _ => exact .base (.tup h)
  | tupK h _ _ _ _ => obtain ⟨ob, its, n, h1, h2, _⟩ := h; exact .kTuple h1 h2
  | lstS _ h _ _ _ _ => exact .base (.lst h)
  | lstO h _ _ _ => exact .base (.lst h)
  | frl h _ _ =>
    rcases h with ⟨_, o, h⟩ | ⟨o, its, n, h1, h2, _⟩
    · exact .base (.frz h)
    · exact .kList h1 h2
  | dKS _ h _ _ _ _ => exact .base (.dK h)
  | dKO h _ _ _ => exact .base (.dK h)
  | dTS _ h _ _ _ _ _ => exact .base (.dT h)
  | dTO h _ _ _ _ => exact .base (.dT h)
theorem kit_all {K : PySem.W.Frag} {d : D} {t : String} {k : Bool} (h : isiD d t = some k) : PySem.W.kitOne K (.type (tyD d)) (.type t) = some k := by
  unfold isiD at h
  split at h
  · rename_i hc
    have ht : t = "int" ∨ t = "bool" ∨ t = "str" ∨ t = "tuple" ∨ t = "list" ∨ t = "dict" := by simpa using hc
    cases h
    have hd : tyD d = "NoneType" ∨ tyD d = "bool" ∨ tyD d = "int" ∨ tyD d = "str" ∨ tyD d = "tuple" ∨ tyD d = "list" ∨ tyD d = "dict" := by cases d <;> simp [tyD]
    refine kit_ty ?_
    revert hd
    generalize tyD d = u
    intro hd
    rcases ht with e | e | e | e | e | e <;> subst e <;> (rcases hd with e | e | e | e | e | e | e) <;> subst e <;> decide +kernel
  · cases h
theorem eo_isi {t : String} {x y : Str} {p0 p1 : Pos} (ha : EOk X W c a p) (hs : isStar a = false) (hg : Gl X x) (hm : X.mg x = none) (hv : bootBuiltins x = some (.builtin "isinstance")) (hn : x ≠ "__name__") (hd : (x == ("__debug__" : Str)) = false)
    (hg2 : Gl X y) (hm2 : X.mg y = none) (hv2 : bootBuiltins y = some (.type t)) (hn2 : y ≠ "__name__") (hd2 : (y == ("__debug__" : Str)) = false) : EOk X W c (.Call (.Name x p0) [a, .Name y p1] [] pos) (.isi p t) := by
  refine .of (fun _ z => nomatch z) ((pe_callB call_isi hg hm hv (pa_cons ha.opd (pa_cons (pe_bltn (v := .ty t) hg2 hm2 hv2 rfl hn2 hd2) pa_nil) (starEach_cons hs _)) hn hd (starEach_cons hs _) rfl).imp fun σ H Q h => rd_one (rel := rD X.K) h fun o v x ρ H I F G1 cu pp => ?_)
  obtain ⟨d, e, G, r1, l1, h, af⟩ := cu.op1 (x := ⟨v, x, G1⟩) (by simp) pp
  have h : (isiD d t).map D.bl = some e := h
  cases q : isiD d t with
  | none => rw [q] at h; cases h
  | some k =>
    rw [q] at h
    cases h
    exact ⟨v, .ty t, _, _, k, rfl, .ty t, tyX_of r1, kit_all q, af.bl cu.good⟩
/-! ### chains -/
theorem re_chn {o1 o2 : CmpOp} {σ : L2.St} {H : Hp} {Q : VK} (h : RE X W c (.chn o1 o2 p q r) σ H Q) :
    tChain (rBin X.K fun a b => (cmpD o1 a b).map .bl) (rBin X.K fun a b => (cmpD o2 a b).map .bl) (RO X W c p) (RO X W c q) (RO X W c r) σ H Q := by
  refine rd_two (γ := Unit) (rel := rD X.K) h fun o v u x y ρ H I F G1 G2 cu pp => ?_
  have pp : Post X.K W σ o (rD X.K σ) Q ((op2 (fun d e => (cmpD o1 d e).map .bl) x y ρ).bind fun d ρ => bl1 (fun k => if k then (mkOpd r (ev c r) ρ).bind fun z ρ => op2 (fun d e => (cmpD o2 d e).map .bl) y z ρ else .ok (.bl false) ρ) d) := pp
  unfold op2 at pp
  cases e : x.get ρ with
  | none => rw [e] at pp; exact False.elim pp
  | some d =>
    cases e2 : y.get ρ with
    | none => rw [e, e2] at pp; exact False.elim pp
    | some d2 =>
      rw [e, e2] at pp
      obtain ⟨G, r1, hG⟩ := cu.opd (t := ⟨v, x, G1⟩) (by simp) e
      obtain ⟨G', r2, hG'⟩ := cu.opd (t := ⟨u, y, G2⟩) (by simp) e2
      cases hc : cmpD o1 d d2 with
      | none => simp only [hc, ofO, Option.map_none] at pp; exact False.elim pp
      | some k =>
        simp only [hc, ofO, Option.map_some] at pp
        refine ⟨I, _, d, d2, .bl k, G, G', cu.good, r1, r2, hG, hG', by simp only [hc]; rfl, fun w H' I' Gw sm st rw' => ?_⟩
        cases rw'
        refine ⟨k, rfl, ?_⟩
        have cu2 := cu.ext sm st
        cases k with
        | false => exact cu2.aft pp |>.bl cu2.good
        | true =>
          refine cu2.runO (k := fun z ρ => op2 (fun d e => (cmpD o2 d e).map .bl) y z ρ) pp fun w' H3 z ρ3 I3 F3 G3 cu3 p3 => ?_
          obtain ⟨d', e', z', G', G'', r1', r2', l1, l2, h1, af⟩ := cu3.op2 (x := ⟨u, y, G2⟩) (y := ⟨w', z, G3⟩) (by simp) (by simp) p3
          exact ⟨I3, _, d', e', z', G', G'', cu3.good, r1', r2', l1, l2, h1, af⟩
theorem eo_chn {o1 o2 : CmpOp} (hu : X.A.units + 66 < cLine) (ha : EOk X W c a p) (hb : EOk X W c b q) (hd : EOk X W c d r) (hm : lastMarks [o1, o2] [b, d] = false) : EOk X W c (.Compare a [o1, o2] [b, d] pos) (.chn o1 o2 p q r) :=
  .of (fun _ z => nomatch z) ((pe_chain (op_cmp hu) (op_cmp hu) ha.opd hb.opd hd.opd hm).imp fun σ H Q h => re_chn h)
/-! ### and, or, choices -/
theorem rd_bl {σ : L2.St} {H : Hp} {Q : VK} {R : V → Hp → Prop} {f : Bool → Env → Out D} (h : Rd X.K W (rD X.K) (fun ρ => (ev c p ρ).bind fun d ρ => bl1 (fun k => f k ρ) d) σ H Q)
    (hk : ∀ o k ρ H I F, Cur X.K σ o ρ H I F [] → Post X.K W σ o (rD X.K σ) Q (f k ρ) → R (.bl k) H) : RE X W c p σ H R := by
  obtain ⟨o, ρ, e1, g, r, ps⟩ := h
  subst e1
  refine ((Cur.start g r).run (rel := rD X.K) ps).mono ?_
  rintro v H' ⟨d, ρ', I', F', G, s, r', _, rr, p'⟩
  cases d with
  | bl k =>
    cases rr
    exact hk o k ρ' H' I' F' ⟨s.weak fun b => by simp [tfp], r', fun _ z => nomatch z⟩ p'
  | _ => exact False.elim p'
theorem eo_and (ha : EOk X W c a p) (hb : EOk X W c (.BoolOp .And (b :: es) pos) q) : EOk X W c (.BoolOp .And (a :: b :: es) pos) (.andE p q) :=
  .of (fun _ z => nomatch z) ((pe_and ha.val hb.val).imp fun σ H Q h => rd_bl (f := fun k ρ => if k then ev c q ρ else .ok (.bl false) ρ) h fun o k ρ H I F cu pp => ⟨k, rfl, by
    cases k with
    | true => exact cu.tail pp rfl
    | false => exact (cu.aft pp).bl cu.good⟩)
theorem eo_or (ha : EOk X W c a p) (hb : EOk X W c (.BoolOp .Or (b :: es) pos) q) : EOk X W c (.BoolOp .Or (a :: b :: es) pos) (.orE p q) :=
  .of (fun _ z => nomatch z) ((pe_or ha.val hb.val).imp fun σ H Q h => rd_bl (f := fun k ρ => if k then .ok (.bl true) ρ else ev c q ρ) h fun o k ρ H I F cu pp => ⟨k, rfl, by
    cases k with
    | true => exact (cu.aft pp).bl cu.good
    | false => exact cu.tail pp rfl⟩)
theorem rd_test {β δ : Type} {rel : L2.St → RelR β δ} {t : QT} {σ : L2.St} {H : Hp} {Q : δ → Hp → Prop} {R : Bool → Hp → Prop} {f : Bool → Env → Out β} (h : Rd X.K W rel (fun ρ => (evT c t ρ).bind fun k ρ => f k ρ) σ H Q)
    (hk : ∀ o k ρ H I F, Cur X.K σ o ρ H I F [] → Post X.K W σ o (rel σ) Q (f k ρ) → R k H) : RT X W c t σ H R := by
  obtain ⟨o, ρ, e1, g, r, ps⟩ := h
  subst e1
  exact (Cur.start g r).runB ps fun k H' ρ' I' F' cu pp => hk o k ρ' H' I' F' cu pp
theorem eo_ite {t : QT} (ht : L2.PT X d (RT X W c t)) (ha : EOk X W c a p) (hb : EOk X W c b q) : EOk X W c (.IfExp d a b pos) (.ite t p q) :=
  .of (fun _ z => nomatch z) ((pe_ifExp ht ha.val hb.val).imp fun σ H Q h => rd_test (f := fun k ρ => if k then ev c p ρ else ev c q ρ) h fun o k ρ H I F cu pp => by
    cases k with
    | true => exact cu.tail pp rfl
    | false => exact cu.tail pp rfl)
/-! ### slices -/
def rIo : L2.St → RelR (Option Int) (Option Int) := fun _ _ _ b a G => b = a ∧ ∀ x, G x = 0
abbrev RQ (X : Cx) (W : WishX) (c : Ctx) (p : QO) : TO := Rd X.K W rIo (evO c p)
theorem po_no : L2.PO X none (RQ X W c .no) := ⟨fun pins s σ H Q J ⟨o, ρ, e1, g, r, pp⟩ => by
  subst e1
  exact L2.po_none.run pins s σ o.H Q J (pp none o.H o.I o.F (fun _ => 0) ((Step.refl g).eqF fun b => by omega) r ⟨rfl, fun _ => rfl⟩)⟩
theorem po_so (h : EOk X W c e p) : L2.PO X (some e) (RQ X W c (.so p)) := ⟨fun pins s σ H Q J ⟨o, ρ, e1, g, r, pp⟩ => by
  subst e1
  refine (L2.po_some h.val).run pins s σ o.H Q J ?_
  have pp : Post X.K W σ o (rIo σ) Q ((ev c p ρ).bind fun d ρ => match d with
    | .int i => .ok (some i) ρ
    | _ => .stuck) := pp
  refine ((Cur.start g r).run (rel := rD X.K) pp).mono ?_
  rintro v H' ⟨d, ρ', I', F', G, s, r', _, rr, p'⟩
  cases d with
  | int i =>
    cases rr
    exact ⟨i, rfl, p' (some i) H' I' F' (fun _ => 0) (s.weak fun b => by simp [tfp]) r' ⟨rfl, fun _ => rfl⟩⟩
  | _ => exact False.elim p'⟩
theorem eo_slc {lo hi : Option Expr} {l h : QO} {p2 : Pos} (ha : EOk X W c a p) (hl : L2.PO X lo (RQ X W c l)) (hh : L2.PO X hi (RQ X W c h)) : EOk X W c (.Subscript a (.Slice lo hi none p2) pos) (.slc p l h) := by
  refine .of (fun _ z => nomatch z) ((pe_slice sl_any ha.opd hl hh).imp fun σ H Q hw => rd_one (rel := rD X.K) hw fun o v x ρ H I F G1 cu pp => ?_)
  refine (cu.run (rel := rIo) pp).mono ?_
  rintro i H1 ⟨i', ρ1, I1, F1, G, s1, r1, tm1, ⟨e1, z1⟩, p1⟩
  subst e1
  have cu1 : Cur X.K σ o ρ1 H1 I1 F1 [⟨v, x, G1⟩] := ⟨s1.weak fun b => by omega, r1, tm1⟩
  refine (cu1.run (rel := rIo) p1).mono ?_
  rintro j H2 ⟨j', ρ2, I2, F2, G', s2, r2, tm2, ⟨e2, z2⟩, p2⟩
  subst e2
  have cu2 : Cur X.K σ o ρ2 H2 I2 F2 [⟨v, x, G1⟩] := ⟨s2.weak fun b => by omega, r2, tm2⟩
  obtain ⟨d, e, G, rr, l1, hq, af⟩ := cu2.op1 (x := ⟨v, x, G1⟩) (by simp) p2
  exact ⟨I2, _, d, e, G, cu2.good, rr, hq, af⟩

/-! ### tests -/
theorem rt_val (hp : ∀ i, p ≠ .var i) {σ : L2.St} {H : Hp} {Q : Bool → Hp → Prop} (h : RT X W c (.tru p) σ H Q) (hb : ∀ ρ d ρ', ev c p ρ = .ok d ρ' → ∃ k, d = .bl k) : RE X W c p σ H fun v H' => ∃ k, v = .bl k ∧ Q k H' := by
  obtain ⟨o, ρ, e1, g, r, ps⟩ := h
  refine ⟨o, ρ, e1, g, r, ?_⟩
  have ps : Post X.K W σ o (rB σ) Q ((mkOpd p (ev c p) ρ).bind fun x ρ => match x.get ρ with
    | some d => ofO (truD d) ρ
    | none => .stuck) := ps
  have e2 : mkOpd p (ev c p) ρ = (ev c p ρ).bind fun d ρ => .ok (.val d) ρ := by
    cases p <;> first | rfl | exact absurd rfl (hp _)
  rw [e2] at ps
  cases q : ev c p ρ with
  | ok d ρ' =>
    rw [q] at ps
    obtain ⟨k, rfl⟩ := hb _ _ _ q
    intro v H' I' F' G s r' rr
    cases rr
    exact ⟨k, rfl, ps k H' I' F' (fun _ => 0) (s.weak fun b => by omega) r' ⟨rfl, fun _ => rfl⟩⟩
  | exc x y ρ' => rw [q] at ps; exact ps
  | stuck => rw [q] at ps; exact ps
theorem ot_tru (h : EOk X W c e p) (he : ∀ whole, isTrue e X.env whole = (do let v ← whole; standAt e.pos; holding [v] (truthy v))) : L2.PT X e (RT X W c (.tru p)) := by
  refine (pt_truth h.opd he).imp fun σ H Q ⟨o, ρ, e1, g, r, ps⟩ => ?_
  subst e1
  have ps : Post X.K W σ o (rB σ) Q ((mkOpd p (ev c p) ρ).bind fun x ρ => match x.get ρ with
    | some d => ofO (truD d) ρ
    | none => .stuck) := ps
  refine (Cur.start g r).runO ps fun v H1 x ρ1 I1 F1 G1 c1 p1 => ?_
  cases e : x.get ρ1 with
  | none => rw [e] at p1; exact False.elim p1
  | some d =>
    rw [e] at p1
    obtain ⟨G, r1, hG⟩ := c1.opd (t := ⟨v, x, G1⟩) (by simp) e
    cases q : truD d with
    | none => simp only [q, ofO] at p1; exact False.elim p1
    | some k =>
      simp only [q, ofO] at p1
      exact ⟨k, truV_of r1 q, p1 k H1 I1 F1 (fun _ => 0) (c1.st.weak fun b => by omega) c1.env ⟨rfl, fun _ => rfl⟩⟩
theorem op2_bl {f : D → D → Option Bool} {x y : Opd} {ρ ρ' : Env} {d : D} (h : op2 (fun d e => (f d e).map D.bl) x y ρ = .ok d ρ') : ∃ k, d = .bl k := by
  unfold op2 at h
  split at h
  · rename_i d1 d2 _ _
    cases q : f d1 d2 with
    | none => simp only [q, ofO, Option.map_none] at h; cases h
    | some k => simp only [q, ofO, Option.map_some] at h; cases h; exact ⟨k, rfl⟩
  · cases h
theorem bind_ok {α β : Type} {x : Out α} {f : α → Env → Out β} {b : β} {ρ : Env} (h : x.bind f = .ok b ρ) : ∃ a ρ1, x = .ok a ρ1 ∧ f a ρ1 = .ok b ρ := by
  cases x with
  | ok a ρ1 => exact ⟨a, ρ1, rfl, h⟩
  | exc _ _ _ => cases h
  | stuck => cases h
theorem bl_cmp {op : CmpOp} {ρ ρ' : Env} {d : D} (h : ev c (.cmp op p q) ρ = .ok d ρ') : ∃ k, d = .bl k := by
  have h : ((mkOpd p (ev c p) ρ).bind fun x ρ => (mkOpd q (ev c q) ρ).bind fun y ρ => op2 (fun d e => (cmpD op d e).map .bl) x y ρ) = .ok d ρ' := h
  obtain ⟨x, ρ1, _, h⟩ := bind_ok h
  obtain ⟨y, ρ2, _, h⟩ := bind_ok h
  exact op2_bl h
theorem bl_isN {ng : Bool} {ρ ρ' : Env} {d : D} (h : ev c (.isN ng p) ρ = .ok d ρ') : ∃ k, d = .bl k := by
  have h : ((mkOpd p (ev c p) ρ).bind fun x ρ => op1 (isNO ng) x ρ) = .ok d ρ' := h
  obtain ⟨x, ρ1, _, h⟩ := bind_ok h
  unfold op1 at h
  split at h
  · rename_i d1 _
    cases d1 <;> (cases h; exact ⟨_, rfl⟩)
  · cases h
theorem bl_chn {o1 o2 : CmpOp} {ρ ρ' : Env} {d : D} (h : ev c (.chn o1 o2 p q r) ρ = .ok d ρ') : ∃ k, d = .bl k := by
  have h : ((mkOpd p (ev c p) ρ).bind fun x ρ => (mkOpd q (ev c q) ρ).bind fun y ρ => (op2 (fun d e => (cmpD o1 d e).map .bl) x y ρ).bind fun d ρ => bl1 (fun k => if k then (mkOpd r (ev c r) ρ).bind fun z ρ => op2 (fun d e => (cmpD o2 d e).map .bl) y z ρ else .ok (.bl false) ρ) d) = .ok d ρ' := h
  obtain ⟨x, ρ1, _, h⟩ := bind_ok h
  obtain ⟨y, ρ2, _, h⟩ := bind_ok h
  obtain ⟨z, ρ3, _, h⟩ := bind_ok h
  cases z with
  | bl k =>
    cases k with
    | true =>
      have h : ((mkOpd r (ev c r) ρ3).bind fun z ρ => op2 (fun d e => (cmpD o2 d e).map .bl) y z ρ) = .ok d ρ' := h
      obtain ⟨w, ρ4, _, h⟩ := bind_ok h
      exact op2_bl h
    | false => cases h; exact ⟨_, rfl⟩
  | _ => cases h
theorem ot_cmp {op : CmpOp} (hu : X.A.units + 66 < cLine) (ha : EOk X W c a p) (hb : EOk X W c b q) (hm : behindInMarks op b = false) : L2.PT X (.Compare a [op] [b] pos) (RT X W c (.tru (.cmp op p q))) :=
  (pt_cmpR (op_cmp hu) ha.opd hb.opd hm).imp fun σ H Q h => rd_two (γ := Unit) (rel := rD X.K) (rt_val (p := .cmp op p q) (fun _ z => nomatch z) h fun _ _ _ e => bl_cmp e) fun o v u x y ρ H I F G1 G2 cu pp => rbin_of cu pp
theorem ot_chn {o1 o2 : CmpOp} (hu : X.A.units + 66 < cLine) (ha : EOk X W c a p) (hb : EOk X W c b q) (hd : EOk X W c d r) (hm : lastMarks [o1, o2] [b, d] = false) : L2.PT X (.Compare a [o1, o2] [b, d] pos) (RT X W c (.tru (.chn o1 o2 p q r))) :=
  (pt_chain (op_cmp hu) (op_cmp hu) ha.opd hb.opd hd.opd hm).imp fun σ H Q h => re_chn (rt_val (p := .chn o1 o2 p q r) (fun _ z => nomatch z) h fun _ _ _ e => bl_chn e)
theorem ot_isN {j : Nat} {p0 : Pos} (ha : EOk X W c a p) : L2.PT X (.Compare a [.Is] [.Constant .none j p0] pos) (RT X W c (.tru (.isN false p))) := by
  refine (pt_cmp (pc_isN ha.opd) rfl).imp fun σ H Q h => rd_one (rel := rD X.K) (rt_val (p := .isN false p) (fun _ z => nomatch z) h fun _ _ _ e => bl_isN e) fun o v x ρ H I F G1 cu pp => ?_
  obtain ⟨d, e, G, r1, l1, h, af⟩ := cu.op1 (x := ⟨v, x, G1⟩) (by simp) pp
  cases r1 <;> (cases h; exact af.bl cu.good)
theorem ot_notN {j : Nat} {p0 : Pos} (ha : EOk X W c a p) : L2.PT X (.Compare a [.IsNot] [.Constant .none j p0] pos) (RT X W c (.tru (.isN true p))) := by
  refine (pt_cmp (pc_notN ha.opd) rfl).imp fun σ H Q h => rd_one (rel := rD X.K) (rt_val (p := .isN true p) (fun _ z => nomatch z) h fun _ _ _ e => bl_isN e) fun o v x ρ H I F G1 cu pp => ?_
  obtain ⟨d, e, G, r1, l1, h, af⟩ := cu.op1 (x := ⟨v, x, G1⟩) (by simp) pp
  cases r1 <;> (cases h; exact af.bl cu.good)
theorem ot_not {t : QT} (ha : L2.PT X a (RT X W c t)) : L2.PT X (.UnaryOp .Not a pos) (RT X W c (.nt t)) :=
  (pt_not ha).imp fun σ H Q h => rd_test (rel := rB) (f := fun k ρ => .ok (!k) ρ) h fun o k ρ H I F cu pp => pp (!k) H I F (fun _ => 0) (cu.st.weak fun b => by omega) cu.env ⟨rfl, fun _ => rfl⟩
theorem _root_.L2.PW.imp {e : Expr} {t t' : TT} (h : PW X e t) (w : ∀ σ H Q, t' σ H Q → t σ H Q) : PW X e t' := ⟨fun wh pins s σ H Q I q => h.run wh pins s σ H Q I (w _ _ _ q)⟩
theorem ot_and {t u : QT} (ha : L2.PT X a (RT X W c t)) (hb : PW X (.BoolOp .And (b :: es) pos) (RT X W c u)) : PW X (.BoolOp .And (a :: b :: es) pos) (RT X W c (.an t u)) :=
  (pw_and ha hb).imp fun σ H Q h => rd_test (rel := rB) (f := fun k ρ => if k then evT c u ρ else .ok false ρ) h fun o k ρ H I F cu pp => by
    cases k with
    | true => exact cu.tail pp rfl
    | false => exact pp false H I F (fun _ => 0) (cu.st.weak fun b => by omega) cu.env ⟨rfl, fun _ => rfl⟩
theorem ot_or {t u : QT} (ha : L2.PT X a (RT X W c t)) (hb : PW X (.BoolOp .Or (b :: es) pos) (RT X W c u)) : PW X (.BoolOp .Or (a :: b :: es) pos) (RT X W c (.or t u)) :=
  (pw_or ha hb).imp fun σ H Q h => rd_test (rel := rB) (f := fun k ρ => if k then .ok true ρ else evT c u ρ) h fun o k ρ H I F cu pp => by
    cases k with
    | false => exact cu.tail pp rfl
    | true => exact pp true H I F (fun _ => 0) (cu.st.weak fun b => by omega) cu.env ⟨rfl, fun _ => rfl⟩
end
end DE
/-! # DeK: own functions called -/
namespace DE
open PySem PySem.Spec PyProof.Rows L2

/-- the arguments that the callee may change, as they are behind the call -/
def RepM (K : PySem.W.Frag) (H : Hp) (I : AP) : List Bool → List V → List D → Fp → Prop
  | [], [], [], F => ∀ b, F b = 0
  | false :: ms, _ :: vs, ds, F => RepM K H I ms vs ds F
  | true :: ms, v :: vs, d :: ds, F => ∃ F1 F2, Rep K H I v d F1 ∧ RepM K H I ms vs ds F2 ∧ ∀ b, F b = F1 b + F2 b
  | _, _, _, _ => False
/-- what a function of plain data promises -/
def spOf (K : PySem.W.Frag) (r : List D → COut) (ms : List Bool) (n : Nat) : Sp := fun vs H Q _ => vs.length = n ∧ ∃ (o : Org) (ds : List D), o.H = H ∧ Good o.F o.H o.I ∧ Reps K o.H o.I vs ds o.F ∧
  match r ds with
  | .ok d m => ∀ v' H' I' G Gm, Step o.F o.H o.I (fun b => G b + Gm b) H' I' → Rep K H' I' v' d G → RepM K H' I' ms vs m Gm → Q v' H'
  | .exc _ _ _ => False
  | .stuck => False
def mslots : List Bool → List Opd → List Nat
  | true :: ms, .slot i :: xs => i :: mslots ms xs
  | _ :: ms, _ :: xs => mslots ms xs
  | _, _ => []
/-- the slots of the changed arguments are empty meanwhile, and hold them -/
def MutOk (σ : L2.St) (ρ : Env) : List Bool → List Opd → List V → Prop
  | [], [], [] => True
  | false :: ms, _ :: xs, _ :: vs => MutOk σ ρ ms xs vs
  | true :: ms, x :: xs, v :: vs => (∃ i, x = .slot i ∧ σ[i]? = some (some v) ∧ ρ[i]? = some none ∧ i ∉ mslots ms xs) ∧ MutOk σ ρ ms xs vs
  | _, _, _ => False
theorem MutOk.mono {σ : L2.St} {ρ ρ' : Env} (h : ∀ j : Nat, ρ[j]? = some none → ρ'[j]? = some none) : ∀ {ms : List Bool} {xs : List Opd} {vs : List V}, MutOk σ ρ ms xs vs → MutOk σ ρ' ms xs vs
  | [], [], [], _ => trivial
  | false :: ms, _ :: xs, _ :: vs, k => MutOk.mono (ms := ms) (xs := xs) (vs := vs) h k
  | true :: ms, x :: xs, v :: vs, ⟨⟨i, a, b, c, d⟩, k⟩ => ⟨⟨i, a, b, h i c, d⟩, MutOk.mono h k⟩
  | [], [], _ :: _, k => k.elim
  | [], _ :: _, _, k => k.elim
  | false :: _, [], _, k => k.elim
  | false :: _, _ :: _, [], k => k.elim
  | true :: _, [], _, k => k.elim
  | true :: _, _ :: _, [], k => k.elim

section
variable {K : PySem.W.Frag} {W : WishX} {σ : L2.St} {o : Org} {H : Hp}
theorem tfp_perm {A B : List Tmp} (p : A.Perm B) (b : Addr) : tfp A b = tfp B b := by
  induction p with
  | nil => rfl
  | cons x _ ih => show x.G b + _ = x.G b + _; rw [ih]
  | swap x y l => show y.G b + (x.G b + _) = x.G b + (y.G b + _); omega
  | trans _ _ i1 i2 => rw [i1, i2]
theorem Cur.perm {ρ : Env} {I : AP} {F : Fp} {A B : List Tmp} (c : Cur K σ o ρ H I F A) (p : A.Perm B) : Cur K σ o ρ H I F B :=
  ⟨c.st.eqF fun b => by rw [tfp_perm p b], c.env, fun t ht => c.tm t (p.mem_iff.mpr ht)⟩
/-- the arguments are handed over -/
theorem Cur.argsO {γ δ : Type} {relQ : RelR γ δ} {Q : δ → Hp → Prop} {k : List D → Env → Out γ} : ∀ {ms : List Bool} {T : List Tmp} {ρ : Env} {I : AP} {F : Fp} {T0 : List Tmp}, Cur K σ o ρ H I F (T0 ++ T) →
    Post K W σ o relQ Q ((argsO ms (T.map (·.o)) ρ).bind k) →
    ∃ ds ρ' I' F' T1, Cur K σ o ρ' H I' F' (T0 ++ T1) ∧ Reps K H I' (T.map (·.v)) ds (tfp T1) ∧ MutOk σ ρ' ms (T.map (·.o)) (T.map (·.v)) ∧ (∀ b, I b → I' b) ∧ (∀ j : Nat, ρ[j]? = some none → ρ'[j]? = some none) ∧
      (∀ i ∈ mslots ms (T.map (·.o)), (ρ[i]?).join ≠ none) ∧ Post K W σ o relQ Q (k ds ρ')
  | [], [], ρ, I, F, T0, c, p => ⟨[], ρ, I, F, [], c, .nil fun _ => rfl, trivial, fun _ h => h, fun _ h => h, (fun i h => nomatch h), p⟩
  | [], _ :: _, ρ, I, F, T0, c, p => False.elim p
  | _ :: _, [], ρ, I, F, T0, c, p => by rename_i m ms; cases m <;> exact False.elim p
  | false :: ms, t :: T, ρ, I, F, T0, c, p => by
    obtain ⟨v, op, G⟩ := t
    have rest : ∀ {I'' : AP} {F'' : Fp} {ρ'' : Env} {d : D}, (∀ b, I b → I'' b) → (∀ j : Nat, ρ[j]? = some none → ρ''[j]? = some none) → (∀ j : Nat, (ρ''[j]?).join ≠ none → (ρ[j]?).join ≠ none) → Cur K σ o ρ'' H I'' F'' (T0 ++ T) → Rep K H I'' v d (fun _ => 0) →
        Post K W σ o relQ Q (((DE.argsO ms (T.map (·.o)) ρ'').bind fun ds ρ => .ok (d :: ds) ρ).bind k) →
        ∃ ds ρ' I' F' T1, Cur K σ o ρ' H I' F' (T0 ++ T1) ∧ Reps K H I' ((⟨v, op, G⟩ :: T : List Tmp).map (·.v)) ds (tfp T1) ∧ MutOk σ ρ' (false :: ms) ((⟨v, op, G⟩ :: T : List Tmp).map (·.o)) ((⟨v, op, G⟩ :: T : List Tmp).map (·.v)) ∧
          (∀ b, I b → I' b) ∧ (∀ j : Nat, ρ[j]? = some none → ρ'[j]? = some none) ∧ (∀ i ∈ mslots (false :: ms) ((⟨v, op, G⟩ :: T : List Tmp).map (·.o)), (ρ[i]?).join ≠ none) ∧ Post K W σ o relQ Q (k ds ρ') := fun {I'' F'' ρ'' d} hI hn hj c' r p' => by
      rw [Out.bind_assoc] at p'
      obtain ⟨ds, ρ', I', F', T1, c2, rs, mo, hI', hn', hs, p2⟩ := Cur.argsO (k := fun ds ρ => k (d :: ds) ρ) c' p'
      refine ⟨d :: ds, ρ', I', F', T1, c2, .cons (r.up hI') rs (fun b => by omega), mo, fun b h => hI' b (hI b h), fun j h => hn' j (hn j h), fun i hi => ?_, p2⟩
      exact hj i (hs i hi)
    cases op with
    | val d =>
      have r : Rep K H I v d G := c.tm ⟨v, .val d, G⟩ (by simp)
      have eT : ∀ b, tfp (T0 ++ (⟨v, .val d, G⟩ : Tmp) :: T) b = tfp (T0 ++ T) b + G b := fun b => by rw [tfp_app, tfp_app]; show tfp T0 b + (G b + tfp T b) = _; omega
      have gd : Good (fun b => (F b + tfp (T0 ++ T) b) + G b) H I := c.good.mono fun b => by have := eT b; omega
      have s := Step.share gd
      have sG : Step (fun b => (fun _ => 0 : Fp) b + G b) H I (fun _ => 0) H (isIm I G) := Step.share (gd.mono fun b => by omega)
      refine rest (I'' := isIm I G) (F'' := F) (fun b h => .inl h) (fun _ h => h) (fun _ h => h) ⟨c.st.trans (s.from (G := fun _ => 0) (gd.mono fun b => by omega) fun b => by have := eT b; omega) |>.eqF fun b => by omega, c.env.mono (fun b h => .inl h) fun _ _ _ e => e, fun t ht => ?_⟩ (r.share (isIm I G) fun b z => z) p
      refine OpdRel.step (c.tm t ?_) sG (gd.mono fun b => by have := tfp_mem ht b; dsimp only; omega)
      rcases List.mem_append.mp ht with z | z
      · exact List.mem_append_left _ z
      · exact List.mem_append_right _ (List.mem_cons_of_mem _ z)
    | slot i =>
      have p : Post K W σ o relQ Q (((readV i ρ).bind fun d ρ => (DE.argsO ms (T.map (·.o)) ρ).bind fun ds ρ => .ok (d :: ds) ρ).bind k) := p
      obtain ⟨hv, hG⟩ : σ[i]? = some (some v) ∧ ∀ b, G b = 0 := c.tm ⟨v, .slot i, G⟩ (by simp)
      have eT : ∀ b, tfp (T0 ++ (⟨v, .slot i, G⟩ : Tmp) :: T) b = tfp (T0 ++ T) b + G b := fun b => by rw [tfp_app, tfp_app]; show tfp T0 b + (G b + tfp T b) = _; omega
      have sub : ∀ t, t ∈ T0 ++ T → t ∈ T0 ++ (⟨v, .slot i, G⟩ : Tmp) :: T := fun t ht => by
        rcases List.mem_append.mp ht with z | z
        · exact List.mem_append_left _ z
        · exact List.mem_append_right _ (List.mem_cons_of_mem _ z)
      unfold readV at p
      cases e : (ρ[i]?).join with
      | none => rw [e] at p; exact False.elim p
      | some d =>
        rw [e] at p
        dsimp only at p
        split at p
        · rename_i hs
          have e2 : ρ[i]? = some (some d) := by
            cases q : ρ[i]? with
            | none => rw [q] at e; cases e
            | some z => rw [q] at e; exact congrArg some e
          obtain ⟨v', G', h1, h2, h3⟩ := c.env.get e2
          rw [hv] at h1
          cases h1
          exact rest (I'' := I) (F'' := F) (fun b h => h) (fun _ h => h) (fun _ h => h) ⟨c.st.weak fun b => by have := eT b; omega, c.env, fun t ht => c.tm t (sub t ht)⟩ (h2.eqF fun b => (h2.shd0 hs b).symm) p
        · obtain ⟨v', I', F', h1, h2, h3, h4, _⟩ := c.freeze e
          rw [hv] at h1
          cases h1
          refine rest (I'' := I') (F'' := F') h4 (fun j hj => ?_) (fun j hj => ?_) ⟨h3.st.weak fun b => by have := eT b; omega, h3.env, fun t ht => h3.tm t (sub t ht)⟩ h2 p
          · by_cases z : i = j
            · subst z; rw [hj] at e; cases e
            · rw [List.getElem?_set_ne z]; exact hj
          · by_cases z : i = j
            · subst z; rw [e]; simp
            · rw [List.getElem?_set_ne z] at hj; exact hj
  | true :: ms, t :: T, ρ, I, F, T0, c, p => by
    obtain ⟨v, op, G⟩ := t
    cases op with
    | val d => exact False.elim p
    | slot i =>
      obtain ⟨hv, hG⟩ : σ[i]? = some (some v) ∧ ∀ b, G b = 0 := c.tm ⟨v, .slot i, G⟩ (by simp)
      have p : Post K W σ o relQ Q ((match (ρ[i]?).join with
        | some d => (DE.argsO ms (T.map Tmp.o) (ρ.set i none)).bind fun ds ρ => .ok (d :: ds) ρ
        | none => .stuck).bind k) := p
      cases e : (ρ[i]?).join with
      | none => rw [e] at p; exact False.elim p
      | some d =>
        rw [e] at p
        dsimp only at p
        rw [Out.bind_assoc] at p
        have e2 : ρ[i]? = some (some d) := by
          cases q : ρ[i]? with
          | none => rw [q] at e; cases e
          | some z => rw [q] at e; exact congrArg some e
        obtain ⟨v', G', F', h1, h2, h3, h4⟩ := c.env.take e2
        rw [hv] at h1
        cases h1
        have hi : i < ρ.length := (List.getElem?_eq_some_iff.mp e2).1
        have eT : ∀ b, tfp (T0 ++ (⟨v, .slot i, G⟩ : Tmp) :: T) b = tfp (T0 ++ T) b := fun b => by rw [tfp_app, tfp_app]; show tfp T0 b + (G b + tfp T b) = _; rw [hG b]; omega
        have c' : Cur K σ o (ρ.set i none) H I F' ((T0 ++ [⟨v, .val d, G'⟩]) ++ T) := by
          refine ⟨c.st.weak fun b => ?_, h3, fun t ht => ?_⟩
          · rw [tfp_app, tfp_append, eT b, tfp_app]; have := h4 b; dsimp only; omega
          · rcases List.mem_append.mp ht with z | z
            · rcases List.mem_append.mp z with z | z
              · exact c.tm t (List.mem_append_left _ z)
              · cases List.mem_singleton.mp z
                exact h2
            · exact c.tm t (List.mem_append_right _ (List.mem_cons_of_mem _ z))
        obtain ⟨ds, ρ', I', F'', T1, c2, rs, mo, hI', hn', hs, p2⟩ := Cur.argsO (k := fun ds ρ => k (d :: ds) ρ) c' p
        rw [List.append_assoc] at c2
        have hd : Rep K H I' v d G' := c2.tm ⟨v, .val d, G'⟩ (by simp)
        have ni : (ρ.set i none)[i]? = some none := by rw [List.getElem?_set_self hi]
        refine ⟨d :: ds, ρ', I', F'', ⟨v, .val d, G'⟩ :: T1, c2, .cons hd rs (fun b => rfl), ⟨⟨i, rfl, hv, hn' i ni, fun z => hs i z (by rw [ni]; rfl)⟩, mo⟩, hI', fun j hj => hn' j ?_, fun j hj => ?_, p2⟩
        · by_cases z : i = j
          · subst z; exact ni
          · rw [List.getElem?_set_ne z]; exact hj
        · rcases List.mem_cons.mp hj with z | z
          · subst z; rw [e]; simp
          · have q := hs j z
            by_cases w : i = j
            · subst w; rw [ni] at q; exact absurd rfl q
            · rw [List.getElem?_set_ne w] at q; exact q
/-- behind the call the changed arguments are names' values again -/
theorem backO_ok : ∀ {ms : List Bool} {xs : List Opd} {vs : List V} {m : List D} {ρ ρ' : Env} {F Gm : Fp} {I : AP}, RelE K H I σ ρ F → RepM K H I ms vs m Gm → MutOk σ ρ ms xs vs → backO ms xs m ρ = some ρ' → RelE K H I σ ρ' (fun b => F b + Gm b)
  | [], [], [], [], ρ, ρ', F, Gm, I, r, rm, _, h => by cases h; exact r.eqF fun b => by have : Gm b = 0 := rm b; omega
  | false :: ms, x :: xs, v :: vs, m, ρ, ρ', F, Gm, I, r, rm, mo, h => backO_ok (ms := ms) (xs := xs) (vs := vs) r rm mo h
  | true :: ms, x :: xs, v :: vs, d :: m, ρ, ρ', F, Gm, I, r, ⟨F1, F2, h1, h2, h3⟩, ⟨⟨i, e, hv, hn, hni⟩, mo⟩, h => by
    subst e
    have h : backO ms xs m (ρ.set i (some d)) = some ρ' := h
    have r0 : RelE K H I σ (ρ.set i none) F := by
      have e : ρ.set i none = ρ := by
        apply List.ext_getElem?
        intro j
        by_cases z : i = j
        · subst z; rw [hn, List.getElem?_set_self (List.getElem?_eq_some_iff.mp hn).1]
        · rw [List.getElem?_set_ne z]
      rw [e]; exact r
    have r1 := r0.put hv r.length h1
    have mo' : MutOk σ (ρ.set i (some d)) ms xs vs := by
      have aux : ∀ {ms : List Bool} {xs : List Opd} {vs : List V}, MutOk σ ρ ms xs vs → i ∉ mslots ms xs → MutOk σ (ρ.set i (some d)) ms xs vs := by
        intro ms
        induction ms with
        | nil => intro xs vs k _; cases xs <;> cases vs <;> first | trivial | exact k.elim
        | cons mm ms ih =>
          intro xs vs k hh
          cases xs with
          | nil => cases mm <;> exact k.elim
          | cons x xs =>
            cases vs with
            | nil => cases mm <;> exact k.elim
            | cons v vs =>
              cases mm with
              | false => exact ih (xs := xs) (vs := vs) k (by cases x <;> exact hh)
              | true =>
                obtain ⟨⟨j, e, a, b, d'⟩, k⟩ := k
                subst e
                have hh : i ∉ j :: mslots ms xs := hh
                have : i ≠ j := fun z => hh (by simp [z])
                exact ⟨⟨j, rfl, a, by rw [List.getElem?_set_ne this]; exact b, d'⟩, ih k fun z => hh (List.mem_cons_of_mem _ z)⟩
      exact aux mo hni
    exact (backO_ok r1 h2 mo' h).eqF fun b => by have := h3 b; omega
  | [], [], [], _ :: _, _, _, _, _, _, _, _, _, h => by cases h
  | [], [], _ :: _, _, _, _, _, _, _, _, _, mo, _ => mo.elim
  | [], _ :: _, _, _, _, _, _, _, _, _, _, mo, _ => mo.elim
  | false :: _, [], _, _, _, _, _, _, _, _, _, mo, _ => mo.elim
  | false :: _, _ :: _, [], _, _, _, _, _, _, _, _, mo, _ => mo.elim
  | true :: _, [], _, _, _, _, _, _, _, _, _, mo, _ => mo.elim
  | true :: _, _ :: _, [], _, _, _, _, _, _, _, _, mo, _ => mo.elim
  | true :: _, _ :: _, _ :: _, [], _, _, _, _, _, _, _, _, h => by rename_i x _ _ _ _ _ _ _ _ _ _ _; cases x <;> cases h
end
end DE
/-! # DeL: the call of an own function, and a function by its body -/
namespace DE
open PySem PySem.Spec PyProof.Rows L2

theorem kw_facts {env : PySem.Env} {pos : Pos} : ∀ {kws : List Keyword} {ks : List Str}, kwNames kws = some ks → (backToKw pos (keywordEach kws env)).all (·.1.isSome) = true ∧ (backToKw pos (keywordEach kws env)).filterMap (·.1) = ks ∧ (backToKw pos (keywordEach kws env)).any (·.1.isNone) = false
  | [], ks, h => by cases h; exact ⟨rfl, rfl, rfl⟩
  | ⟨none, e, p⟩ :: r, ks, h => by cases h
  | ⟨some k, e, p⟩ :: r, ks, h => by
    have h : (kwNames r).map (k :: ·) = some ks := h
    cases q : kwNames r with
    | none => rw [q] at h; cases h
    | some r' =>
      rw [q] at h
      cases h
      obtain ⟨h1, h2, h3⟩ := kw_facts (env := env) (pos := pos) q
      exact ⟨h1, congrArg (k :: ·) h2, h3⟩
theorem star_plain {env : PySem.Env} {pos : Pos} : ∀ {es : List Expr}, es.any isStar = false → (backTo pos (starEach es env)).any (·.1) = false
  | [], _ => rfl
  | e :: es, h => by
    rw [List.any_cons, Bool.or_eq_false_iff] at h
    rw [starEach_cons h.1]
    exact star_plain h.2
theorem vals_getD {vs : List V} {us : List Value} (r : Vals vs us) (i : Nat) : RelV (vs.getD i .non) (us.getD i .none) := by
  cases h : vs[i]? with
  | none =>
    have := r.none_of h
    rw [List.getD_eq_getElem?_getD, List.getD_eq_getElem?_getD, h, this]; rfl
  | some v =>
    obtain ⟨u, h1, h2⟩ := r.get h
    rw [List.getD_eq_getElem?_getD, List.getD_eq_getElem?_getD, h, h1]; exact h2
theorem vals_perm {vs : List V} {us : List Value} (r : Vals vs us) : ∀ perm : List Nat, Vals (perm.map fun i => vs.getD i .non) (perm.map fun i => us.getD i .none)
  | [] => .nil
  | i :: p => .cons (vals_getD r i) (vals_perm r p)
section
variable {X : Cx} {CX : CXT} {k n : Nat} {f : Addr} {fd : FuncData} {ps ks : List Str} {sp : Sp} {E : XK} {x : Str} {p pos : Pos} {es : List Expr} {kws : List Keyword} {ta tk : TA} {perm : List Nat}
/-- how the calls of a function bind: n by position, ks by name -/
def BindP (K : PySem.W.Frag) (fd : FuncData) (ps : List Str) (n : Nat) (ks : List Str) (perm : List Nat) : Prop :=
  ∀ (s : Shared) (us ws : List Value), us.length = n → ws.length = ks.length → K.In s.heap → BindsTo s fd ⟨us, ks.zip ws⟩ (ps.zip (perm.map fun i => (us ++ ws).getD i .none))
def tCallG (sp : Sp) (n m : Nat) (perm : List Nat) (E : XK) (ta tk : TA) : TE := fun σ H Q => ta σ H fun vs H1 => tk σ H1 fun zs H2 => vs.length = n ∧ zs.length = m ∧ sp (perm.map fun i => (vs ++ zs).getD i .non) H2 Q E
theorem pe_callG (F : FnOk X.prog X.w X.K X.mg X.base CX k f fd ps sp) (hr : Room k X.A) (hg : Gl X x) (hm : X.mg x = some (.ref f)) (hk : PySem.W.keepIn X.K (.ref f) = true) (hb : BindP X.K fd ps n ks perm) (hx : Passes CX X E) (hd : (x == ("__debug__" : Str)) = false)
    (ha : PA X es ta) (hnil : es = [] → ∀ σ H Q, ta σ H Q → Q [] H) (hkw : PK X kws tk) (hs : es.any isStar = false) (hn : kwNames kws = some ks) : PE X (.Call (.Name x p) es kws pos) (tCallG sp n ks.length perm E ta tk) := by
  obtain ⟨kw1, kw2, kw3⟩ := kw_facts (env := X.env) (pos := pos) hn
  have core : ∀ {pins : List (Addr × Obj)} {σ : L2.St} {H : Hp} {s : Shared} {Q : VK} {us ws : List Value} {vs zs : List V}, Inv X pins σ H s → Vals vs us → Vals zs ws → vs.length = n → zs.length = ks.length → sp (perm.map fun i => (vs ++ zs).getD i .non) H Q E →
      wpAny (model X.prog X.w) X.A (call (.ref f) us (ks.zip ws)) (EP X pins σ Q) X.xe s := fun {pins σ H s Q us ws vs zs} I r rz e1 e2 h => by
    have r2 := vals_perm (r.append rz) perm
    refine wpAny_call (codeAny_mono (F.run X.A X.stack s H ⟨us, ks.zip ws⟩ _ _ Q E hr I.env0 (hb s us ws (r.length.symm.trans e1) (rz.length.symm.trans e2) I.kIn) r2 h) fun r s' hq => ?_)
    cases r with
    | error e => exact hx pins σ H s e s' I hq
    | ok fl =>
      cases fl with
      | ret u => exact I.after hq
      | next => exact False.elim hq
      | brk => exact False.elim hq
      | cont => exact False.elim hq
  refine ⟨fun pins s σ H Q I h => ?_⟩
  refine wpAny_Call_Name_kw (ld_glob I hg hm ?_ hd)
  cases es with
  | nil =>
    refine PySem.W.callWith_KW0 (h₀ := X.base) I.ok.mod.kin hk kw1 ?_ (by rw [kw3]; rfl)
    refine thn (hkw.run pos pins s σ H _ I (hnil rfl σ H _ h)) fun ws s2 ⟨zs, H2, I2, rz, l1, l2, q2⟩ => ⟨I2.kIn, ?_⟩
    rw [kw2]
    exact core (us := []) (vs := []) I2 .nil rz l1 l2 q2
  | cons e r =>
    have hse : isStar e = false := by rw [List.any_cons, Bool.or_eq_false_iff] at hs; exact hs.1
    refine PySem.W.callWith_KW (h₀ := X.base) I.ok.mod.kin hk kw1 (thn (ha.run pos pins s σ H _ I h) fun us s1 ⟨vs, H1, I1, r1, q⟩ => ?_) (by rw [star_plain hs, kw3]; rfl) (starEach_cons hse _)
    refine thn (hkw.run pos pins s1 σ H1 _ I1 q) fun ws s2 ⟨zs, H2, I2, rz, l1, l2, q2⟩ => ⟨I2.kIn, ?_⟩
    rw [kw2]
    exact core I2 r1 rz l1 l2 q2
theorem ra_nil {W : WishX} {c : Ctx} {σ : L2.St} {H : Hp} {Q : List V → Hp → Prop} (h : RAs X W c .nil σ H Q) : Q [] H := by
  obtain ⟨o, ρ, e1, g, r, p⟩ := h
  subst e1
  exact p [] o.H o.I o.F (fun _ => 0) ((Step.refl g).eqF fun b => by omega) r fun _ => rfl
theorem PK.imp {t t' : TA} (h : PK X kws t) (w : ∀ σ H Q, t' σ H Q → t σ H Q) : PK X kws t' := ⟨fun pos pins s σ H Q I q => h.run pos pins s σ H Q I (w _ _ _ q)⟩
theorem ks_nil {W : WishX} {c : Ctx} : PK X [] (RAs X W c .nil) := PK.imp pk_nil fun σ H Q h => ra_nil h
theorem ks_cons {W : WishX} {c : Ctx} {nm : Option Str} {e : Expr} {kp : Pos} {pp : PX} {pps : PXs} (h1 : EOk X W c e pp) (h2 : PK X kws (RAs X W c pps)) : PK X (⟨nm, e, kp⟩ :: kws) (RAs X W c (.cons pp pps)) := by
  refine PK.imp (pk_cons h1.opd h2) fun σ H Q ⟨o, ρ, e1, g, r, pq⟩ => ?_
  subst e1
  have pq : Post X.K W σ o (rOs X.K σ) Q ((mkOpd pp (ev c pp) ρ).bind fun x ρ => (evs c pps ρ).bind fun xs ρ => .ok (x :: xs) ρ) := pq
  refine (Cur.start g r).runO pq fun v H1 x ρ1 I1 F1 G1 c1 p1 => ?_
  refine c1.runAs p1 fun T' H' ρ' I' F' c2 p2 => ?_
  refine p2 (v :: T'.map (·.v)) H' I' F' (fun b => G1 b + tfp T' b) (c2.st.eqF fun b => ?_) c2.env ⟨G1, tfp T', ?_, OpdsRel.of fun t ht => c2.tm t (by simp [ht]), fun _ => rfl⟩
  · show F' b + (G1 b + tfp T' b) = F' b + (G1 b + tfp T' b); rfl
  · exact c2.tm ⟨v, x, G1⟩ (by simp)
end
theorem evs_app {c : Ctx} : ∀ {p q : PXs} {ρ : DE.Env}, evs c (p.app q) ρ = (evs c p ρ).bind fun xs ρ => (evs c q ρ).bind fun ys ρ => .ok (xs ++ ys) ρ
  | .nil, q, ρ => by
    show evs c q ρ = (evs c q ρ).bind fun ys ρ => .ok ys ρ
    cases evs c q ρ <;> rfl
  | .cons e p, q, ρ => by
    show ((mkOpd e (ev c e) ρ).bind fun x ρ => (evs c (p.app q) ρ).bind fun xs ρ => .ok (x :: xs) ρ) = ((mkOpd e (ev c e) ρ).bind fun x ρ => (evs c p ρ).bind fun xs ρ => .ok (x :: xs) ρ).bind _
    rw [Out.bind_assoc]
    congr 1
    funext x ρ
    rw [evs_app, Out.bind_assoc, Out.bind_assoc]
    congr 1
    funext xs ρ
    rw [Out.bind_assoc]
    rfl
theorem range_getD {T : List Tmp} (d : Tmp) : (List.range T.length).map (fun i => T.getD i d) = T := by
  apply List.ext_getElem?
  intro i
  rw [List.getElem?_map]
  by_cases h : i < T.length
  · rw [List.getElem?_range h]
    simp [h]
  · rw [List.getElem?_eq_none (by simpa using h), List.getElem?_eq_none (by simpa using h)]; rfl
theorem permO_T {T : List Tmp} : ∀ {perm : List Nat} {xs : List Opd}, permO (T.map (·.o)) perm = some xs → ∀ d : Tmp, (perm.map fun i => T.getD i d).map (·.o) = xs ∧ ((perm.map fun i => T.getD i d).map (·.v)) = perm.map fun i => (T.map (·.v)).getD i .non
  | [], xs, h, d => by cases h; exact ⟨rfl, rfl⟩
  | i :: p, xs, h, d => by
    unfold permO at h
    cases e : (T.map (·.o))[i]? with
    | none => rw [e] at h; cases h
    | some x =>
      cases e2 : permO (T.map (·.o)) p with
      | none => rw [e, e2] at h; cases h
      | some r =>
        rw [e, e2] at h
        cases h
        obtain ⟨h1, h2⟩ := permO_T e2 d
        rw [List.getElem?_map] at e
        cases q : T[i]? with
        | none => rw [q] at e; cases e
        | some t =>
          rw [q] at e
          have e : t.o = x := Option.some.inj e
          have g : T.getD i d = t := by rw [List.getD_eq_getElem?_getD, q]; rfl
          have g2 : (T.map (·.v)).getD i .non = t.v := by rw [List.getD_eq_getElem?_getD, List.getElem?_map, q]; rfl
          refine ⟨?_, ?_⟩
          · simp only [List.map_cons]
            rw [g, e]
            exact congrArg _ h1
          · simp only [List.map_cons]
            rw [g, g2]
            exact congrArg _ h2
theorem permO_length {T : List Tmp} : ∀ {perm : List Nat} {xs : List Opd}, permO (T.map (·.o)) perm = some xs → xs.length = perm.length
  | [], xs, h => by cases h; rfl
  | i :: p, xs, h => by
    unfold permO at h
    cases e : (T.map (·.o))[i]? with
    | none => rw [e] at h; cases h
    | some x =>
      cases e2 : permO (T.map (·.o)) p with
      | none => rw [e, e2] at h; cases h
      | some r => rw [e, e2] at h; cases h; simp [permO_length e2]
theorem evs_length {c : Ctx} : ∀ {p : PXs} {ρ ρ' : DE.Env} {xs : List Opd}, evs c p ρ = .ok xs ρ' → xs.length = p.len
  | .nil, ρ, ρ', xs, h => by cases h; rfl
  | .cons e p, ρ, ρ', xs, h => by
    have h : ((mkOpd e (ev c e) ρ).bind fun x ρ => (evs c p ρ).bind fun xs ρ => .ok (x :: xs) ρ) = .ok xs ρ' := h
    obtain ⟨x, ρ1, _, h⟩ := bind_ok h
    obtain ⟨ys, ρ2, h2, h⟩ := bind_ok h
    cases h
    show ys.length + 1 = p.len + 1
    rw [evs_length h2]
theorem permOf_length {n : Nat} {ks : List Str} : ∀ {ps : List Str} {i : Nat} {perm : List Nat}, permOf n ks ps i = some perm → perm.length = ps.length
  | [], i, perm, h => by cases h; rfl
  | p :: ps, i, perm, h => by
    unfold permOf at h
    split at h
    · cases e : permOf n ks ps (i + 1) with
      | none => rw [e] at h; cases h
      | some r => rw [e] at h; cases h; simp [permOf_length e]
    · split at h
      · rename_i e
        cases h; simp [permOf_length e]
      · cases h
/-- what is known of an own function -/
structure FnFact (X : Cx) (c : Ctx) (x : Str) (g : Sig) : Prop where
  ex : ∃ (f : Addr) (fd : FuncData) (k : Nat), X.mg x = some (.ref f) ∧ PySem.W.keepIn X.K (.ref f) = true ∧ Room k X.A ∧ FnOk X.prog X.w X.K X.mg X.base (L2.CX X.prog X.w) k f fd g.ps (spOf X.K (c.call x) g.ms g.ps.length) ∧
    ∀ n ks perm, g.pats.contains (n, ks) = true → permOf n ks g.ps 0 = some perm → BindP X.K fd g.ps n ks perm
theorem eo_call {X : Cx} {W : WishX} {c : Ctx} {x : Str} {p0 pos : Pos} {es : List Expr} {kws : List Keyword} {p q : PXs} {perm : List Nat} {g : Sig} {ks : List Str} (hg : Gl X x) (hd : (x == ("__debug__" : Str)) = false) (hsig : c.sig x = some g) (ff : FnFact X c x g)
    (hp : PA X es (RAs X W c p)) (hq : PK X kws (RAs X W c q)) (hs : es.any isStar = false) (hn : kwNames kws = some ks) (hpat : g.pats.contains (es.length, ks) = true) (hperm : permOf es.length ks g.ps 0 = some perm)
    (hpr : perm.Perm (List.range (es.length + ks.length))) (lp : p.len = es.length) (lq : q.len = ks.length) (hnil : es = [] → p = .nil) : EOk X W c (.Call (.Name x p0) es kws pos) (.call x (p.app q) perm) := by
  obtain ⟨f, fd, k, hm, hk, hr, F, hb⟩ := ff.ex
  refine .of (fun _ z => nomatch z) ((pe_callG F hr hg hm hk (hb _ _ _ hpat hperm) passL hd hp (fun e σ H Q h => by rw [hnil e] at h; exact ra_nil h) hq hs hn).imp fun σ H Q h => ?_)
  obtain ⟨o, ρ, e1, gd, r, pp⟩ := h
  subst e1
  have pp : Post X.K W σ o (rD X.K σ) Q ((evs c (p.app q) ρ).bind fun xs ρ => callO c x perm xs ρ) := pp
  rw [evs_app, Out.bind_assoc] at pp
  have keyl : ∀ {Z : PXs} {ρ : DE.Env} {α : Type} {g : List Opd → DE.Env → Out α}, (evs c Z ρ).bind g = (evs c Z ρ).bind fun xs ρ => if xs.length = Z.len then g xs ρ else .stuck := by
    intro Z ρ α g
    cases e : evs c Z ρ with
    | ok xs ρ' => show g xs ρ' = if xs.length = Z.len then g xs ρ' else .stuck; rw [if_pos (evs_length e)]
    | exc _ _ _ => rfl
    | stuck => rfl
  rw [keyl] at pp
  refine (Cur.start gd r).runAs pp fun T1 H1 ρ1 I1 F1 c1 p1 => ?_
  split at p1
  · rename_i l1
    rw [Out.bind_assoc, keyl] at p1
    refine c1.runAs p1 fun T2 H2 ρ2 I2 F2 c2 p2 => ?_
    split at p2
    · rename_i l2
      simp only [List.length_map] at l1 l2
      refine ⟨by rw [List.length_map, l1, lp], by rw [List.length_map, l2, lq], ?_⟩
      have p2 : Post X.K W σ o (rD X.K σ) Q (callO c x perm (T1.map (·.o) ++ T2.map (·.o)) ρ2) := p2
      rw [← List.map_append] at p2
      rw [← List.map_append]
      have c2 : Cur X.K σ o ρ2 H2 I2 F2 (T1 ++ T2) := c2
      generalize hT : T1 ++ T2 = T at p2 c2
      have hl : T.length = es.length + ks.length := by rw [← hT, List.length_append, l1, l2, lp, lq]
      unfold callO at p2
      rw [hsig] at p2
      cases hx : permO (T.map (·.o)) perm with
      | none => rw [hx] at p2; exact False.elim p2
      | some xs =>
        rw [hx] at p2
        let d : Tmp := ⟨.non, .val .non, fun _ => 0⟩
        obtain ⟨h1, h2⟩ := permO_T hx d
        have c3 : Cur X.K σ o ρ2 H2 I2 F2 (perm.map fun i => T.getD i d) := c2.perm (by
          have := hpr.map (fun i => T.getD i d)
          rw [← hl, range_getD] at this
          exact this.symm)
        rw [← h2]
        generalize hT' : (perm.map fun i => T.getD i d) = T' at c3 h1 h2
        dsimp only at p2
        rw [← h1] at p2
        obtain ⟨ds, ρ', I', F', T3, c4, rs, mo, hI, hn2, hs2, p3⟩ := Cur.argsO (T0 := []) (T := T') c3 p2
        refine ⟨?_, ⟨tfp T3, H2, I'⟩, ds, rfl, c4.good.mono fun b => by simp, rs, ?_⟩
        · rw [h2, List.length_map, permOf_length hperm]
        · cases hc : c.call x ds with
          | ok d' m =>
            rw [hc] at p3
            intro v' H' I'' G Gm s rv rm
            dsimp only at p3
            cases hbk : backO g.ms (T'.map (·.o)) m ρ' with
            | none => rw [hbk] at p3; exact False.elim p3
            | some ρ'' =>
              rw [hbk] at p3
              have c4' : Cur X.K σ o ρ' H2 I' F' T3 := c4
              have gT : Good (fun b => tfp T3 b + F' b) H2 I' := c4'.good.mono fun b => by omega
              have env' := c4'.env.step s gT
              have fr := s.frame gT
              refine p3 v' H' I'' (fun b => F' b + Gm b) G ((c4'.st.trans (fr.from (G := fun _ => 0) (gT.mono fun b => by dsimp only; omega) fun b => by dsimp only; omega)).weak fun b => by omega) (backO_ok env' rm mo hbk) rv
          | exc n y m => rw [hc] at p3; exact p3
          | stuck => rw [hc] at p3; exact p3
    · exact False.elim p2
  · exact False.elim p1
end DE
/-! # DeM: what is walked -/
namespace DE
open PySem PySem.Spec PyProof.Rows L2

/-- an iterator that yields the data ds, while st holds -/
structure Yld (K : PySem.W.Frag) (J : It) (ds : List D) (st : Hp → AP → Prop) : Prop where
  stab : ∀ {H H' : Hp} {I I' : AP}, st H I → (∀ b, I b → I' b) → (∀ b o, I b → H b = some o → H' b = some o) → st H' I'
  len : ds.length ≤ sizeLine
  go : ∀ {i : Nat} {H : Hp} {I : AP}, st H I → i < ds.length → J.go i H
  stop : ∀ {H : Hp} {I : AP}, st H I → J.stop ds.length H
  yld : ∀ {i : Nat} {H H' : Hp} {I : AP} {x : V} {Fa : Fp}, st H I → i < ds.length → J.yld i H x H' → Good Fa H I → ∃ I' d, (∀ b o, H b = some o → H' b = some o) ∧ Step Fa H I Fa H' I' ∧ ds[i]? = some d ∧ Rep K H' I' x d (fun _ => 0)
def rI (K : PySem.W.Frag) : L2.St → RelR (List D) It := fun _ H I J ds G => (∀ b, G b = 0) ∧ ∃ st, Yld K J ds st ∧ st H I
abbrev RI (X : Cx) (W : WishX) (c : Ctx) (l : QL) : TI := Rd X.K W (rI X.K) (evL c l)

section
variable {K : PySem.W.Frag}
theorem yld_list {a : Addr} {vs : List V} {ds : List D} (hl : vs.length = ds.length) (hz : vs.length ≤ sizeLine) : Yld K (Itl K a) ds (fun H I => I a ∧ H a = some (.lst vs) ∧ Reps K H I vs ds (fun _ => 0)) where
  stab := fun {H H' I I'} ⟨h1, h2, h3⟩ hI k => ⟨hI a h1, k a _ h1 h2, (Rep.mono hI).2 h3 fun b o z e => k b o (z.resolve_right fun w => w rfl) e⟩
  len := by omega
  go := fun {i H I} ⟨h1, h2, h3⟩ hi => ⟨vs, vs[i], SqL.of h2, by simp⟩
  stop := fun {H I} ⟨h1, h2, h3⟩ => ⟨vs, SqL.of h2, by omega⟩
  yld := fun {i H H' I x Fa} ⟨h1, h2, h3⟩ hi y g => by
    obtain ⟨e, y⟩ := y
    subst e
    obtain ⟨d, hd⟩ : ∃ d, ds[i]? = some d := ⟨ds[i], by simp⟩
    obtain ⟨v, G, e1, r, hG⟩ := h3.get hd
    have := y vs (SqL.of h2)
    rw [e1] at this
    cases this
    exact ⟨I, d, fun _ _ e => e, Step.refl g, hd, r.eqF fun b => by have := hG b; omega⟩
theorem yld_tup {a : Addr} {vs : List V} {ds : List D} (hl : vs.length = ds.length) (hz : vs.length ≤ sizeLine) : Yld K (Itt K a) ds (fun H I => ((I a ∧ H a = some (.tup vs)) ∨ KTup K a vs) ∧ Reps K H I vs ds (fun _ => 0)) where
  stab := fun {H H' I I'} ⟨h1, h3⟩ hI k => ⟨h1.elim (fun h => .inl ⟨hI a h.1, k a _ h.1 h.2⟩) .inr, (Rep.mono hI).2 h3 fun b o z e => k b o (z.resolve_right fun w => w rfl) e⟩
  len := by omega
  go := fun {i H I} ⟨h1, h3⟩ hi => ⟨vs, vs[i], h1.elim (fun h => SqT.of h.2) .inr, by simp⟩
  stop := fun {H I} ⟨h1, h3⟩ => ⟨vs, h1.elim (fun h => SqT.of h.2) .inr, by omega⟩
  yld := fun {i H H' I x Fa} ⟨h1, h3⟩ hi y g => by
    obtain ⟨e, y⟩ := y
    subst e
    obtain ⟨d, hd⟩ : ∃ d, ds[i]? = some d := ⟨ds[i], by simp⟩
    obtain ⟨v, G, e1, r, hG⟩ := h3.get hd
    have := y vs (h1.elim (fun h => SqT.of h.2) .inr)
    rw [e1] at this
    cases this
    exact ⟨I, d, fun _ _ e => e, Step.refl g, hd, r.eqF fun b => by have := hG b; omega⟩
theorem yld_range {lo : Int} {n : Nat} (hz : n ≤ sizeLine) : Yld K (Itr lo n) ((List.range n).map fun i => .int (lo + (i : Nat))) (fun _ _ => True) where
  stab := fun _ _ _ => trivial
  len := by simpa using hz
  go := fun {i H I} _ hi => by have hi : i < ((List.range n).map fun i => (D.int (lo + (i : Nat)))).length := hi; simp only [List.length_map, List.length_range] at hi; exact hi
  stop := fun _ => by show n ≤ _; simp
  yld := fun {i H H' I x Fa} _ hi y g => by
    obtain ⟨e, y⟩ := y
    subst e y
    have hi : i < n := by simpa using hi
    exact ⟨I, .int (lo + (i : Nat)), fun _ _ e => e, Step.refl g, by rw [List.getElem?_map, List.getElem?_range hi]; rfl, .int _ fun _ => rfl⟩
theorem yld_pair {J : It} {vs ws : List V} {ds es : List D} {st : Hp → AP → Prop} (hv : vs.length = ds.length) (hw : ws.length = es.length) (hz : vs.length ≤ sizeLine) (hst : ∀ {H H' : Hp} {I I' : AP}, st H I → (∀ b, I b → I' b) → (∀ b o, I b → H b = some o → H' b = some o) → st H' I')
    (hr : ∀ {H I}, st H I → Reps K H I vs ds (fun _ => 0) ∧ Reps K H I ws es (fun _ => 0))
    (hgo : ∀ {i H I}, st H I → i < vs.length → i < ws.length → J.go i H) (hstop : ∀ {i H I}, st H I → (vs.length ≤ i ∨ ws.length ≤ i) → J.stop i H)
    (hy : ∀ {i H H' I x}, st H I → J.yld i H x H' → ∃ T a b, x = .ref T ∧ H T = none ∧ H' = upd H T (.tup [a, b]) ∧ vs[i]? = some a ∧ ws[i]? = some b) : Yld K J (zipD ds es) st where
  stab := hst
  len := by unfold zipD; rw [List.length_map, List.length_zip]; omega
  go := fun h hi => by
    unfold zipD at hi
    rw [List.length_map, List.length_zip] at hi
    exact hgo h (by omega) (by omega)
  stop := fun h => hstop h (by unfold zipD; rw [List.length_map, List.length_zip]; omega)
  yld := fun {i H H' I x Fa} h hi y g => by
    obtain ⟨T, a, b, e1, hT, e2, e3, e4⟩ := hy h y
    subst e1 e2
    unfold zipD at hi
    rw [List.length_map, List.length_zip] at hi
    obtain ⟨r1, r2⟩ := hr h
    have hi1 : i < ds.length := by omega
    have hi2 : i < es.length := by omega
    obtain ⟨d, hd⟩ : ∃ d, ds[i]? = some d := ⟨ds[i], by simp⟩
    obtain ⟨e, he⟩ : ∃ e, es[i]? = some e := ⟨es[i], by simp⟩
    obtain ⟨v, G, f1, p1, g1⟩ := r1.get hd
    obtain ⟨w, G', f2, p2, g2⟩ := r2.get he
    rw [e3] at f1; cases f1
    rw [e4] at f2; cases f2
    have s := Step.newTup (vs := [a, b]) g hT
    have z1 := p1.eqF (G := fun _ => 0) fun b => by have := g1 b; omega
    have z2 := p2.eqF (G := fun _ => 0) fun b => by have := g2 b; omega
    have gz : Good (fun b => Fa b + (fun _ => 0 : Fp) b) H I := g.mono fun b => by dsimp only; omega
    refine ⟨_, .tup [d, e], same_upd hT, s, ?_, .tup (.inr rfl) upd_same (by show 2 ≤ sizeLine; decide) (.cons (z1.step s gz) (.cons (z2.step s gz) (.nil fun _ => rfl) fun _ => rfl) fun _ => rfl) (fun _ => rfl) fun _ => rfl⟩
    unfold zipD
    have hz2 : (ds.zip es)[i]? = some (d, e) := List.getElem?_zip_eq_some.mpr ⟨hd, he⟩
    rw [List.getElem?_map, hz2]
    rfl
end
section
variable {X : Cx} {W : WishX} {c : Ctx} {tg l a b : Expr} {p q : PX} {tl : TE}
/-- a list or a tuple is walked -/
def iSeq (K : PySem.W.Frag) (tl : TE) : TI := fun σ H R => tl σ H fun x H1 => ∃ a, x = .ref a ∧ (((∃ xs, SqL K H1 a xs) ∧ R (Itl K a) H1) ∨ ((∃ xs, SqT K H1 a xs) ∧ R (Itt K a) H1))
theorem pi_seq (hl : PE X l tl) : PI X tg l (iSeq X.K tl) := by
  refine ⟨fun pins s σ H R J h => ?_⟩
  refine thn (hl.run pins s σ H _ J h) fun v s1 ⟨x, H1, I1, r1, q1⟩ => ?_
  obtain ⟨a, e, q⟩ := q1
  subst e
  cases r1
  rcases q with ⟨⟨xs, hq⟩, q⟩ | ⟨⟨xs, hq⟩, q⟩
  · obtain ⟨its, rv, p, hz⟩ := I1.list hq
    refine wpAny_pyIter_list p.isList ?_
    refine ⟨s1.heap.objs.size, [s1.heap.objs.size], _, _, H1, rfl, I1.kept (t' := s1.toks) fun b o e => Heap.get?_push_of_some _ e, turn_list a _, ⟨_, Heap.get?_push_size _ rfl, rfl, rfl⟩, fun b hb => ?_, q⟩
    have e : b = s1.heap.objs.size := by simpa using hb
    subst e
    exact I1.fpOk (Nat.le_refl _) (I1.hok.fresh (Nat.le_refl _))
  · obtain ⟨its, rv, p, hz⟩ := I1.tuple hq
    refine wpAny_pyIter_tuple (show s1.heap.IsTuple a its.toArray from p) ?_
    refine ⟨s1.heap.objs.size, [s1.heap.objs.size], _, _, H1, rfl, I1.kept (t' := s1.toks) fun b o e => Heap.get?_push_of_some _ e, turn_tuple a _, ⟨_, Heap.get?_push_size _ rfl, rfl, rfl⟩, fun b hb => ?_, q⟩
    have e : b = s1.heap.objs.size := by simpa using hb
    subst e
    exact I1.fpOk (Nat.le_refl _) (I1.hok.fresh (Nat.le_refl _))
/-- the reading's end for a walk -/
theorem Cur.walk {σ : L2.St} {o : Org} {ρ : DE.Env} {H : Hp} {I : AP} {F : Fp} {T : List Tmp} {R : It → Hp → Prop} {J : It} {ds : List D} {st : Hp → AP → Prop} (cu : Cur X.K σ o ρ H I F T) (pp : Post X.K W σ o (rI X.K σ) R (.ok ds ρ)) (y : Yld X.K J ds st) (h : st H I) : R J H :=
  pp J H I F (fun _ => 0) (cu.st.weak fun b => by omega) cu.env ⟨fun _ => rfl, st, y, h⟩
theorem Rep.walk {K : PySem.W.Frag} {H : Hp} {I : AP} {v : V} {d : D} {F : Fp} {ds : List D} (r : Rep K H I v d F) (hF : ∀ b, F b = 0) (h : walkD d = some ds) :
    ∃ a, v = .ref a ∧ ((∃ vs, vs.length = ds.length ∧ vs.length ≤ sizeLine ∧ I a ∧ H a = some (.lst vs) ∧ Reps K H I vs ds (fun _ => 0)) ∨ (∃ vs, vs.length = ds.length ∧ vs.length ≤ sizeLine ∧ ((I a ∧ H a = some (.tup vs)) ∨ KTup K a vs) ∧ Reps K H I vs ds (fun _ => 0))) := by
  cases r with
  | tup h1 h2 h3 h4 h5 _ => cases h; exact ⟨_, rfl, .inr ⟨_, h4.length, h3, .inl ⟨h1, h2⟩, h4.eqF fun b => (h5 b).symm⟩⟩
  | tupK h2 h3 h4 h5 _ => cases h; exact ⟨_, rfl, .inr ⟨_, h4.length, h3, .inr h2, h4.eqF fun b => (h5 b).symm⟩⟩
  | lstS h1 h2 h3 h4 h5 _ => cases h; exact ⟨_, rfl, .inl ⟨_, h4.length, h3, h1, h2, h4.eqF fun b => (h5 b).symm⟩⟩
  | lstO h2 h3 h4 h5 => rename_i a _ _; have := h5 a; rw [hF a, sing_self] at this; omega
  | _ => cases h
theorem Rep.walkT {K : PySem.W.Frag} {H : Hp} {I : AP} {v : V} {F : Fp} {ds : List D} (r : Rep K H I v (.tup ds) F) : ∃ a vs, v = .ref a ∧ vs.length = ds.length ∧ vs.length ≤ sizeLine ∧ ((I a ∧ H a = some (.tup vs)) ∨ KTup K a vs) ∧ Reps K H I vs ds (fun _ => 0) := by
  cases r with
  | tup h1 h2 h3 h4 h5 _ => exact ⟨_, _, rfl, h4.length, h3, .inl ⟨h1, h2⟩, h4.eqF fun b => (h5 b).symm⟩
  | tupK h2 h3 h4 h5 _ => exact ⟨_, _, rfl, h4.length, h3, .inr h2, h4.eqF fun b => (h5 b).symm⟩
theorem Rep.walkL {K : PySem.W.Frag} {H : Hp} {I : AP} {v : V} {o : Bool} {ds : List D} (r : Rep K H I v (.lst o ds) (fun _ => 0)) : ∃ a vs, v = .ref a ∧ vs.length = ds.length ∧ vs.length ≤ sizeLine ∧ I a ∧ H a = some (.lst vs) ∧ Reps K H I vs ds (fun _ => 0) := by
  cases r with
  | lstS h1 h2 h3 h4 h5 _ => exact ⟨_, _, rfl, h4.length, h3, h1, h2, h4.eqF fun b => (h5 b).symm⟩
  | lstO h2 h3 h4 h5 => rename_i a _; have h0 : 0 = sing a a + _ := h5 a; rw [sing_self] at h0; omega
theorem il_ex (h : EOk X W c l p) : PI X tg l (RI X W c (.ex p)) := by
  refine (pi_seq h.opd).imp fun σ H R ⟨o, ρ, e1, g, r, pp⟩ => ?_
  subst e1
  have pp : Post X.K W σ o (rI X.K σ) R ((mkOpd p (ev c p) ρ).bind fun x ρ => (shareO [x] ρ).bind fun ds ρ => ofO (walk1 ds) ρ) := pp
  refine (Cur.start g r).runO pp fun v H1 x ρ1 I1 F1 G1 c1 p1 => ?_
  obtain ⟨ds, ρ', I', F', c2, rs, hI, p2⟩ := Cur.shareO (T := [⟨v, x, G1⟩]) c1 p1
  cases rs with
  | cons rv rn hF =>
    cases rn
    rename_i F1 F2 d hn
    have p2 : Post X.K W σ o (rI X.K σ) R (ofO (walkD d) ρ') := p2
    cases hw : walkD d with
    | none => rw [hw] at p2; exact False.elim p2
    | some ds =>
      rw [hw] at p2
      obtain ⟨a, e, h⟩ := rv.walk (fun b => by have h0 : 0 = F1 b + F2 b := hF b; omega) hw
      refine ⟨a, e, ?_⟩
      rcases h with ⟨vs, h1, h2, h3, h4, h5⟩ | ⟨vs, h1, h2, h3, h4⟩
      · exact .inl ⟨⟨vs, SqL.of h4⟩, c2.walk p2 (yld_list h1 h2) ⟨h3, h4, h5⟩⟩
      · exact .inr ⟨⟨vs, h3.elim (fun h => SqT.of h.2) .inr⟩, c2.walk p2 (yld_tup h1 h2) ⟨h3, h4⟩⟩
theorem Cur.opsL {σ : L2.St} {o : Org} {ρ : DE.Env} {H : Hp} {I : AP} {F : Fp} {T : List Tmp} {R : It → Hp → Prop} {f : List D → Option (List D)} (cu : Cur X.K σ o ρ H I F T) (pp : Post X.K W σ o (rI X.K σ) R (opL f (T.map (·.o)) ρ)) :
    ∃ ds z, Paired (fun (v : V) (d : D) => ∃ G, Rep X.K H I v d G ∧ ∀ b, G b ≤ F b + tfp T b) (T.map (·.v)) ds ∧ f ds = some z ∧ Post X.K W σ o (rI X.K σ) R (.ok z ρ) := by
  unfold opL at pp
  have aux : ∀ T' : List Tmp, (∀ t ∈ T', t ∈ T) → ∀ ds, getsO (T'.map (·.o)) ρ = some ds → Paired (fun (v : V) (d : D) => ∃ G, Rep X.K H I v d G ∧ ∀ b, G b ≤ F b + tfp T b) (T'.map (·.v)) ds := by
    intro T'
    induction T' with
    | nil => intro _ ds e; cases e; exact .nil
    | cons t r ih =>
      intro h ds e
      have e : (match t.o.get ρ, getsO (r.map (·.o)) ρ with
        | some d, some ds => some (d :: ds)
        | _, _ => none) = some ds := e
      cases e1 : t.o.get ρ with
      | none => rw [e1] at e; cases e
      | some d =>
        cases e2 : getsO (r.map (·.o)) ρ with
        | none => rw [e1, e2] at e; cases e
        | some q =>
          rw [e1, e2] at e
          cases e
          exact .cons (cu.opd (h t (by simp)) e1) (ih (fun u hu => h u (by simp [hu])) q e2)
  cases e : getsO (T.map (·.o)) ρ with
  | none => rw [e] at pp; exact False.elim pp
  | some ds =>
    rw [e] at pp
    cases q : f ds with
    | none => simp only [ofO, q] at pp; exact False.elim pp
    | some z => simp only [ofO, q] at pp; exact ⟨ds, z, aux T (fun _ h => h) ds e, q, pp⟩
theorem rngD_ok {lo hi : Int} {ds : List D} (h : rngD lo hi = some ds) : (-(2 ^ 62) ≤ lo ∧ lo < 2 ^ 62 ∧ -(2 ^ 62) ≤ hi ∧ hi < 2 ^ 62) ∧ (hi - lo).toNat ≤ sizeLine ∧ ds = (List.range (hi - lo).toNat).map fun i => .int (lo + (i : Nat)) := by
  unfold rngD at h
  split at h
  · rename_i hc
    cases h
    exact ⟨⟨hc.1, hc.2.1, hc.2.2.1, hc.2.2.2.1⟩, by rw [sizeLine_lit]; omega, rfl⟩
  · cases h
theorem il_rng1 {p0 pos : Pos} (hg : Gl X "range") (hm : X.mg "range" = none) (hs : isStar a = false) (ha : EOk X W c a p) : PI X tg (.Call (.Name "range" p0) [a] [] pos) (RI X W c (.rng1 (.cons p .nil))) := by
  refine (pi_range1 hg hm (as_cons hs ha as_nil) (by rw [starEach_cons hs]; rfl)).imp fun σ H R h => rd_list (rel := rI X.K) (k := fun xs ρ => opL rng1D xs ρ) h fun o T ρ H I F cu pp => ?_
  obtain ⟨ds, z, pr, h1, p2⟩ := cu.opsL pp
  unfold rng1D at h1
  split at h1
  · rename_i j
    obtain ⟨v, G, e, r⟩ := one_of pr
    cases r
    obtain ⟨b1, b2, b3⟩ := rngD_ok h1
    subst b3
    refine ⟨j, e, b1.2.2.1, b1.2.2.2, ?_⟩
    have e0 : j - 0 = j := by omega
    rw [e0] at p2 b2
    exact cu.walk p2 (yld_range b2) trivial
  · cases h1
theorem il_rng2 {p0 pos : Pos} (hg : Gl X "range") (hm : X.mg "range" = none) (hs : isStar a = false) (hs2 : isStar b = false) (ha : EOk X W c a p) (hb : EOk X W c b q) : PI X tg (.Call (.Name "range" p0) [a, b] [] pos) (RI X W c (.rng2 (.cons p (.cons q .nil)))) := by
  refine (pi_range2 hg hm (as_cons hs ha (as_cons hs2 hb as_nil)) (by rw [starEach_cons hs, starEach_cons hs2]; rfl) (by rw [starEach_cons hs2]; rfl)).imp fun σ H R h => rd_list (rel := rI X.K) (k := fun xs ρ => opL rng2D xs ρ) h fun o T ρ H I F cu pp => ?_
  obtain ⟨ds, z, pr, h1, p2⟩ := cu.opsL pp
  unfold rng2D at h1
  split at h1
  · rename_i i j
    obtain ⟨v, u, G, G', e, r1, r2⟩ := two_of pr
    cases r1
    cases r2
    obtain ⟨b1, b2, b3⟩ := rngD_ok h1
    subst b3
    exact ⟨i, j, e, b1, cu.walk p2 (yld_range b2) trivial⟩
  · cases h1
theorem il_zip {elts : List Expr} {kk : Nat} {tpos p0 pos : Pos} (hg : Gl X "zip") (hm : X.mg "zip" = none) (hs : isStar a = false) (hs2 : isStar b = false) (ha : EOk X W c a p) (hb : EOk X W c b q) : PI X (.Tuple elts kk tpos) (.Call (.Name "zip" p0) [a, b] [] pos) (RI X W c (.zip (.cons p (.cons q .nil)))) := by
  refine (RZ.pi_zipA hg hm (as_cons hs ha (as_cons hs2 hb as_nil)) (starEach_cons hs _) (star_plain (by simp [hs2]))).imp fun σ H R h => rd_list (rel := rI X.K) (k := fun xs ρ => (shareO xs ρ).bind fun ds ρ => ofO (zip2D ds) ρ) h fun o T ρ H I F cu pp => ?_
  obtain ⟨ds, ρ', I', F', c2, rs, hI, p2⟩ := cu.shareO pp
  cases hz : zip2D ds with
  | none => rw [hz] at p2; exact False.elim p2
  | some zs =>
    rw [hz] at p2
    have two : ∃ v1 v2 d1 d2, T.map (·.v) = [v1, v2] ∧ ds = [d1, d2] ∧ Rep X.K H I' v1 d1 (fun _ => 0) ∧ Rep X.K H I' v2 d2 (fun _ => 0) := by
      generalize T.map (·.v) = vs at rs
      unfold zip2D at hz
      split at hz <;> first | (cases hz; done) | skip
      all_goals
        cases rs with
        | cons r1 t1 h1 =>
          cases t1 with
          | cons r2 t2 h2 =>
            cases t2
            exact ⟨_, _, _, _, rfl, rfl, r1.eqF fun b => by have h0 := h1 b; dsimp only at h0; omega, r2.eqF fun b => by have h0 := h1 b; have h3 := h2 b; dsimp only at h0; omega⟩
    obtain ⟨v1, v2, d1, d2, e1, e2, r1, r2⟩ := two
    subst e2
    unfold zip2D at hz
    split at hz
    · rename_i xs ys heq
      cases heq
      cases hz
      obtain ⟨a1, vs1, f1, l1, z1, h1, q1⟩ := r1.walkT
      obtain ⟨a2, vs2, f2, l2, z2, h2, q2⟩ := r2.walkT
      subst f1 f2
      rw [e1]
      refine ⟨a1, a2, vs1, vs2, rfl, .inr ⟨h1.elim (fun h => SqT.of h.2) .inr, h2.elim (fun h => SqT.of h.2) .inr, c2.walk p2 (yld_pair (J := RZ.ItzT X.K a1 a2) (st := fun H I => (((I a1 ∧ H a1 = some (.tup vs1)) ∨ KTup X.K a1 vs1) ∧ Reps X.K H I vs1 xs (fun _ => 0)) ∧ (((I a2 ∧ H a2 = some (.tup vs2)) ∨ KTup X.K a2 vs2) ∧ Reps X.K H I vs2 ys (fun _ => 0))) l1 l2 z1 (fun h hI k => ⟨(yld_tup (K := X.K) l1 z1).stab h.1 hI k, (yld_tup (K := X.K) l2 z2).stab h.2 hI k⟩) (fun h => ⟨h.1.2, h.2.2⟩) (fun {i H I} h u v => ⟨vs1, vs2, vs1[i], vs2[i], h.1.1.elim (fun h => SqT.of h.2) .inr, h.2.1.elim (fun h => SqT.of h.2) .inr, by simp, by simp⟩) (fun h u => ⟨vs1, vs2, h.1.1.elim (fun h => SqT.of h.2) .inr, h.2.1.elim (fun h => SqT.of h.2) .inr, u⟩) (fun h y => by
        obtain ⟨T0, x0, y0, u1, u2, u3, u4, u5⟩ := y
        exact ⟨T0, x0, y0, u1, u2, u3, u4 _ (h.1.1.elim (fun h => SqT.of h.2) .inr), u5 _ (h.2.1.elim (fun h => SqT.of h.2) .inr)⟩)) ⟨⟨h1, q1⟩, ⟨h2, q2⟩⟩⟩⟩
    · rename_i o1 xs o2 ys heq
      cases heq
      cases hz
      obtain ⟨a1, vs1, f1, l1, z1, i1, h1, q1⟩ := r1.walkL
      obtain ⟨a2, vs2, f2, l2, z2, i2, h2, q2⟩ := r2.walkL
      subst f1 f2
      rw [e1]
      refine ⟨a1, a2, vs1, vs2, rfl, .inl ⟨SqL.of h1, SqL.of h2, c2.walk p2 (yld_pair (J := Itz X.K a1 a2) (st := fun H I => (I a1 ∧ H a1 = some (.lst vs1) ∧ Reps X.K H I vs1 xs (fun _ => 0)) ∧ (I a2 ∧ H a2 = some (.lst vs2) ∧ Reps X.K H I vs2 ys (fun _ => 0))) l1 l2 z1 (fun h hI k => ⟨(yld_list (K := X.K) l1 z1).stab h.1 hI k, (yld_list (K := X.K) l2 z2).stab h.2 hI k⟩) (fun h => ⟨h.1.2.2, h.2.2.2⟩) (fun {i H I} h u v => ⟨vs1, vs2, vs1[i], vs2[i], SqL.of h.1.2.1, SqL.of h.2.2.1, by simp, by simp⟩) (fun h u => ⟨vs1, vs2, SqL.of h.1.2.1, SqL.of h.2.2.1, u⟩) (fun h y => by
        obtain ⟨T0, x0, y0, u1, u2, u3, u4, u5⟩ := y
        exact ⟨T0, x0, y0, u1, u2, u3, u4 _ (SqL.of h.1.2.1), u5 _ (SqL.of h.2.2.1)⟩)) ⟨⟨i1, h1, q1⟩, ⟨i2, h2, q2⟩⟩⟩⟩
    · cases hz
end
end DE
/-! # DeN: targets, comprehensions -/
namespace DE
open PySem PySem.Spec PyProof.Rows L2

def gNms : List Nat → TGs
  | [] => gNil
  | i :: is => gCons (gName i) (gNms is)
def tgT (K : PySem.W.Frag) : QG → TG
  | .nm i => gName i
  | .tp is => gTup K is.length (gNms is)
section
variable {K : PySem.W.Frag} {H : Hp} {I : AP}
theorem setAll_ok {Q : L2.St → Hp → Prop} : ∀ {is : List Nat} {ds : List D} {vs : List V} {σ : L2.St} {ρ ρ1 : DE.Env} {F : Fp}, setAll is ds ρ = some ρ1 → RelE K H I σ ρ F → Reps K H I vs ds (fun _ => 0) →
    (∀ σ1 F1, RelE K H I σ1 ρ1 F1 → (∀ b, F1 b ≤ F b) → (∀ i : Nat, i ∉ is → σ1[i]? = σ[i]?) → σ1.length = σ.length → Q σ1 H) → gNms is vs σ H Q
  | [], [], vs, σ, ρ, ρ1, F, h, r, rs, k => by
    cases h
    cases rs
    exact ⟨rfl, k σ F r (fun _ => Nat.le_refl _) (fun _ _ => rfl) rfl⟩
  | i :: is, d :: ds, vs, σ, ρ, ρ1, F, h, r, rs, k => by
    unfold setAll at h
    split at h
    · rename_i hi
      cases rs with
      | @cons _ F1 F2 v vs _ _ hv ht hF =>
        have z1 : ∀ b, F1 b = 0 := fun b => by have h0 : 0 = F1 b + F2 b := hF b; omega
        have z2 : ∀ b, F2 b = 0 := fun b => by have h0 : 0 = F1 b + F2 b := hF b; omega
        obtain ⟨F', r', l'⟩ := r.set (i := i) (by rw [r.length]; exact hi) (hv.eqF (G := fun _ => 0) fun b => (z1 b).symm)
        refine ⟨v, vs, rfl, setAll_ok h r' (ht.eqF fun b => (z2 b).symm) fun σ1 F3 r3 l3 o3 e3 => k σ1 F3 r3 (fun b => by have := l3 b; have := l' b; dsimp only at *; omega) (fun j hj => ?_) (by rw [e3, List.length_set])⟩
        rw [o3 j fun z => hj (List.mem_cons_of_mem _ z), List.getElem?_set_ne fun z => hj (by simp [z])]
    · cases h
  | [], _ :: _, _, _, _, _, _, h, _, _, _ => by cases h
  | _ :: _, [], _, _, _, _, _, h, _, _, _ => by cases h
theorem setAll_len : ∀ {is : List Nat} {ds : List D} {ρ ρ1 : DE.Env}, setAll is ds ρ = some ρ1 → is.length = ds.length
  | [], [], _, _, _ => rfl
  | _ :: is, _ :: ds, ρ, ρ1, h => by
    unfold setAll at h
    split at h
    · simp [setAll_len h]
    · cases h
  | [], _ :: _, _, _, h => by cases h
  | _ :: _, [], _, _, h => by cases h
theorem asg_ok {Q : L2.St → Hp → Prop} {g : QG} {d : D} {v : V} {σ : L2.St} {ρ ρ1 : DE.Env} {F G : Fp} (h : asg g d ρ = some ρ1) (r : RelE K H I σ ρ F) (rv : Rep K H I v d G)
    (k : ∀ σ1 F1, RelE K H I σ1 ρ1 F1 → (∀ b, F1 b ≤ F b + G b) → (∀ i : Nat, i ∉ tgSl g → σ1[i]? = σ[i]?) → σ1.length = σ.length → Q σ1 H) : tgT K g v σ H Q := by
  cases g with
  | nm i =>
    unfold asg at h
    dsimp only at h
    split at h
    · rename_i hi
      cases h
      obtain ⟨F', r', l'⟩ := r.set (i := i) (by rw [r.length]; exact hi) rv
      exact k _ F' r' l' (fun j hj => List.getElem?_set_ne fun z => hj (by simp [tgSl, z])) List.length_set
    · cases h
  | tp is =>
    cases d with
    | tup ds =>
      have h : setAll is ds ρ = some ρ1 := h
      obtain ⟨a, vs, e, s1, hz, rs⟩ := rv.tupR
      exact ⟨a, vs, e, s1, by rw [rs.length, setAll_len h], setAll_ok h r rs fun σ1 F1 r1 l1 o1 e1 => k σ1 F1 r1 (fun b => by have := l1 b; omega) o1 e1⟩
    | _ => cases h
theorem wipe_cons (σ : L2.St) (v : Nat) (vs : List Nat) : wipe σ (v :: vs) = (wipe σ vs).set v none := rfl
theorem wipeE_cons (ρ : DE.Env) (v : Nat) (vs : List Nat) : wipeE ρ (v :: vs) = (wipeE ρ vs).set v none := rfl
theorem backE_cons (ρ ρ' : DE.Env) (v : Nat) (vs : List Nat) : backE ρ (v :: vs) ρ' = backE ρ vs (ρ'.set v (ρ[v]?.join)) := rfl
theorem set_oob {α : Type} {l : List α} {i : Nat} {a : α} (h : ¬ i < l.length) : l.set i a = l := by
  apply List.ext_getElem?
  intro j
  by_cases w : i = j
  · subst w; rw [List.getElem?_eq_none (by simpa using h), List.getElem?_eq_none (by omega)]
  · rw [List.getElem?_set_ne w]
theorem set_self {α : Type} {l : List α} {i : Nat} {a : α} (h : l[i]? = some a) : l.set i a = l := by
  apply List.ext_getElem?
  intro j
  by_cases w : i = j
  · subst w; rw [h, List.getElem?_set_self (List.getElem?_eq_some_iff.mp h).1]
  · rw [List.getElem?_set_ne w]
theorem wipe_get (σ : L2.St) (i : Nat) : ∀ vs : List Nat, (wipe σ vs)[i]? = if i ∈ vs then (σ[i]?.map fun _ => none) else σ[i]?
  | [] => by simp [wipe]
  | v :: vs => by
    have ih := wipe_get σ i vs
    unfold wipe
    by_cases h : v = i
    · subst h
      by_cases hl : v < (wipe σ vs).length
      · rw [List.getElem?_set_self hl]
        rw [wipe_length] at hl
        simp [hl]
      · rw [List.getElem?_eq_none (by simpa using hl)]
        rw [wipe_length] at hl
        have : σ[v]? = none := List.getElem?_eq_none (by omega)
        simp [this]
    · rw [List.getElem?_set_ne h, ih]
      have : (i ∈ v :: vs) ↔ i ∈ vs := by simp [Ne.symm h]
      simp only [this]
theorem wipe_same {σ1 σ : L2.St} {vs : List Nat} (ho : ∀ i : Nat, i ∉ vs → σ1[i]? = σ[i]?) (hl : σ1.length = σ.length) : wipe σ1 vs = wipe σ vs := by
  apply List.ext_getElem?
  intro i
  rw [wipe_get, wipe_get]
  by_cases h : i ∈ vs
  · rw [if_pos h, if_pos h]
    by_cases hi : i < σ.length
    · have h2 : i < σ1.length := by omega
      simp [hi, h2]
    · rw [List.getElem?_eq_none (by omega), List.getElem?_eq_none (by omega)]
  · rw [if_neg h, if_neg h, ho i h]
theorem wipe_idem (σ : L2.St) (vs : List Nat) : wipe (wipe σ vs) vs = wipe σ vs := wipe_same (fun i h => by rw [wipe_get, if_neg h]) (wipe_length σ vs)
/-- both forget a slot -/
theorem RelE.drop1 {σ : L2.St} {ρ : DE.Env} {F : Fp} {i : Nat} (r : RelE K H I σ ρ F) : ∃ F', RelE K H I (σ.set i none) (ρ.set i none) F' ∧ ∀ b, F' b ≤ F b := by
  induction r generalizing i with
  | nl hF => exact ⟨_, .nl hF, fun _ => Nat.le_refl _⟩
  | @no F o σ ρ t ih =>
    cases i with
    | zero => exact ⟨F, .no t, fun _ => Nat.le_refl _⟩
    | succ i => obtain ⟨F', h1, h2⟩ := ih (i := i); exact ⟨F', .no h1, h2⟩
  | @so F F1 F2 v0 d0 σ ρ h0 t hF ih =>
    cases i with
    | zero => exact ⟨F2, .no t, fun b => by rw [hF b]; omega⟩
    | succ i =>
      obtain ⟨F', h1, h2⟩ := ih (i := i)
      exact ⟨fun b => F1 b + F' b, .so h0 h1 fun _ => rfl, fun b => by rw [hF b]; have := h2 b; dsimp only; omega⟩
theorem RelE.wiped {σ : L2.St} {ρ : DE.Env} {F : Fp} (r : RelE K H I σ ρ F) : ∀ vs : List Nat, ∃ F', RelE K H I (wipe σ vs) (wipeE ρ vs) F' ∧ ∀ b, F' b ≤ F b
  | [] => ⟨F, r, fun _ => Nat.le_refl _⟩
  | v :: vs => by
    obtain ⟨F1, h1, h2⟩ := RelE.wiped r vs
    obtain ⟨F2, h3, h4⟩ := h1.drop1 (i := v)
    exact ⟨F2, h3, fun b => Nat.le_trans (h4 b) (h2 b)⟩
theorem wipeE_get (ρ : DE.Env) {v : Nat} : ∀ {vs : List Nat}, v ∉ vs → (wipeE ρ vs)[v]? = ρ[v]?
  | [], _ => rfl
  | w :: vs, h => by
    unfold wipeE
    rw [List.getElem?_set_ne fun z => h (by simp [z]), wipeE_get ρ fun z => h (List.mem_cons_of_mem _ z)]
theorem RelE.none_slot {σ : L2.St} {ρ : DE.Env} {F : Fp} {i : Nat} (r : RelE K H I σ ρ F) (h : σ[i]? = some none) : ρ[i]? = some none := by
  induction r generalizing i with
  | nl _ => simp at h
  | no _ ih => cases i with
    | zero => rfl
    | succ i => exact ih (by simpa using h)
  | so _ _ _ ih => cases i with
    | zero => simp at h
    | succ i => exact ih (by simpa using h)
/-- a slot that is none in ρ may hold anything in σ -/
theorem RelE.slot_any {σ : L2.St} {ρ : DE.Env} {F : Fp} {i : Nat} {x : Option V} (r : RelE K H I σ ρ F) (h : ρ[i]? = some none) : RelE K H I (σ.set i x) ρ F := by
  induction r generalizing i with
  | nl hF => exact .nl hF
  | no t ih => cases i with
    | zero => exact .no t
    | succ i => exact .no (ih (by simpa using h))
  | so a t hF ih => cases i with
    | zero => simp at h
    | succ i => exact .so a (ih (by simpa using h)) hF
theorem set_back {σ : L2.St} {i : Nat} {x : Option V} (h : σ[i]? = some x) (y : Option V) : (σ.set i y).set i x = σ := by
  rw [List.set_set]
  apply List.ext_getElem?
  intro j
  by_cases z : i = j
  · subst z; rw [h, List.getElem?_set_self (List.getElem?_eq_some_iff.mp h).1]
  · rw [List.getElem?_set_ne z]
/-- a block's own names put aside: their values, and how they come back -/
theorem RelE.aside {σ : L2.St} {ρ : DE.Env} {F : Fp} (r : RelE K H I σ ρ F) : ∀ {vs : List Nat}, vs.Nodup → ∃ (F1 : Fp) (S : List Tmp), RelE K H I (wipe σ vs) (wipeE ρ vs) F1 ∧ (∀ b, F b = F1 b + tfp S b) ∧ (∀ t ∈ S, OpdRel K H I σ t.v t.o t.G) ∧ (∀ t ∈ S, ∃ d, t.o = .val d) ∧
      ∀ {H' : Hp} {I' : AP} {ρ' : DE.Env} {F' : Fp}, RelE K H' I' (wipe σ vs) ρ' F' → (∀ t ∈ S, OpdRel K H' I' σ t.v t.o t.G) → RelE K H' I' σ (backE ρ vs ρ') (fun b => F' b + tfp S b)
  | [], _ => ⟨F, [], r, fun b => rfl, (fun _ z => nomatch z), (fun _ z => nomatch z), fun {H' I' ρ' F'} r' _ => r'.eqF fun b => rfl⟩
  | v :: vs, nd => by
    obtain ⟨hv, nd⟩ := List.nodup_cons.mp nd
    obtain ⟨F1, S, r1, e1, t1, v1, back⟩ := RelE.aside r nd
    have eg := wipeE_get ρ hv
    cases q : ρ[v]? with
    | none =>
      -- no such slot
      have hl : ¬ v < (wipe σ vs).length := by rw [wipe_length, r.length]; exact fun z => by rw [List.getElem?_eq_getElem z] at q; cases q
      have s1 : wipe σ (v :: vs) = wipe σ vs := set_oob hl
      have s2 : wipeE ρ (v :: vs) = wipeE ρ vs := set_oob (by rw [← r1.length]; exact hl)
      refine ⟨F1, S, by rw [s1, s2]; exact r1, e1, t1, v1, fun {H' I' ρ' F'} r' hS => ?_⟩
      rw [s1] at r'
      have : ρ'.set v (ρ[v]?.join) = ρ' := set_oob (by rw [← r'.length]; exact hl)
      rw [backE_cons, this]
      exact back r' hS
    | some od =>
      have hlt : v < (wipe σ vs).length := by rw [wipe_length, r.length]; exact (List.getElem?_eq_some_iff.mp q).1
      cases od with
      | none =>
        have z : (wipeE ρ vs)[v]? = some none := eg.trans q
        have r2 : RelE K H I (wipe σ (v :: vs)) (wipeE ρ (v :: vs)) F1 := by
          rw [wipeE_cons, set_self z]
          exact r1.slot_any z
        refine ⟨F1, S, r2, e1, t1, v1, fun {H' I' ρ' F'} r' hS => ?_⟩
        have w1 : (wipe σ (v :: vs))[v]? = some none := by rw [wipe_cons, List.getElem?_set_self hlt]
        have w2 := r'.none_slot w1
        obtain ⟨x, hx⟩ : ∃ x, (wipe σ vs)[v]? = some x := ⟨(wipe σ vs)[v], by simp⟩
        have r3 := r'.slot_any (x := x) w2
        rw [wipe_cons, set_back hx] at r3
        have : ρ'.set v (ρ[v]?.join) = ρ' := by rw [q]; exact set_self w2
        rw [backE_cons, this]
        exact back r3 hS
      | some d =>
        obtain ⟨x, G, F2, hx, hr, r2, e2⟩ := r1.take (i := v) (d := d) (eg.trans q)
        have r3 : RelE K H I (wipe σ (v :: vs)) (wipeE ρ (v :: vs)) F2 := by
          rw [wipeE_cons, wipe_cons]
          refine r2.slot_any ?_
          rw [List.getElem?_set_self (by rw [← r1.length]; exact hlt)]
        refine ⟨F2, ⟨x, .val d, G⟩ :: S, r3, fun b => ?_, fun t ht => ?_, fun t ht => ?_, fun {H' I' ρ' F'} r' hS => ?_⟩
        · show F b = F2 b + (G b + tfp S b)
          have := e1 b; have := e2 b; omega
        · rcases List.mem_cons.mp ht with z | z
          · subst z; exact hr
          · exact t1 t z
        · rcases List.mem_cons.mp ht with z | z
          · subst z; exact ⟨d, rfl⟩
          · exact v1 t z
        · have w1 : (wipe σ (v :: vs))[v]? = some none := by rw [wipe_cons, List.getElem?_set_self hlt]
          have w2 := r'.none_slot w1
          have r4 := r'.slot_any (x := some x) w2
          rw [wipe_cons, set_back hx] at r4
          have hd : Rep K H' I' x d G := hS ⟨x, .val d, G⟩ (by simp)
          have r5 := RelE.put_aux hd r4 v hx w2
          rw [backE_cons, q]
          exact (back r5 fun t ht => hS t (by simp [ht])).eqF fun b => by show F' b + (G b + tfp S b) = G b + F' b + tfp S b; omega
/-- the object at an owned address is changed -/
theorem Step.write {F : Fp} {p : Addr} {o : HO} (g : Good F H I) (hp : F p ≠ 0) : Step F H I F (upd H p o) I := by
  refine ⟨fun _ h => h, fun b u h z => by rw [upd_ne (fun e : b = p => hp (by rw [← e]; exact z))]; exact h, fun _ h => .inl h, fun _ h => .inl h, ⟨g.one, fun b h => ⟨(g.own b h).1, ?_⟩, fun b h => ?_⟩⟩
  · by_cases e : b = p
    · subst e; rw [upd_same]; simp
    · rw [upd_ne e]; exact (g.own b h).2
  · by_cases e : b = p
    · subst e; exact absurd h (g.own _ hp).1
    · rw [upd_ne e]; exact g.imm b h
end
end DE
/-! # DeO: list comprehensions -/
namespace DE
open PySem PySem.Spec PyProof.Rows L2

/-- nothing leaves by an exception -/
abbrev W0 : WishX := fun _ _ _ _ => False
section
variable {K : PySem.W.Frag} {W : WishX} {σ : L2.St} {o : Org} {ρ ρ' : DE.Env} {H : Hp} {I : AP} {F : Fp} {T : List Tmp}
/-- a part whose outcome is known is run -/
theorem Cur.known {α β : Type} {rel : L2.St → RelR α β} {g : DE.Env → Out α} {a : α} (c : Cur K σ o ρ H I F T) (e : g ρ = .ok a ρ') {R : β → Hp → Prop}
    (h : ∀ b H' I' F' G, Step o.F o.H o.I (fun x => F' x + tfp T x + G x) H' I' → Step (fun x => F x + tfp T x) H I (fun x => F' x + tfp T x + G x) H' I' → RelE K H' I' σ ρ' F' → (∀ t ∈ T, OpdRel K H' I' σ t.v t.o t.G) → rel σ H' I' b a G → R b H') : Rd K W rel g σ H R := by
  have p : Post K W0 σ o (fun H I (b : Unit) (a' : α) G => a' = a) (fun _ _ => True) ((g ρ).bind fun a r => .ok a r) := by
    rw [e]; intro _ _ _ _ _ _ _ _; trivial
  refine ⟨⟨F, H, I⟩, ρ, rfl, c.goodE, c.env, ?_⟩
  rw [e]
  intro b H' I' F' G s r rr
  exact h b H' I' F' G ((c.st.trans (s.frame c.good)).eqF fun b => by omega) ((s.frame c.good).eqF fun b => by omega) r (fun t ht => (c.tm t ht).step s (c.good.mono fun b => by have := tfp_mem ht b; dsimp only; omega)) rr
theorem noX_ok {α : Type} {x : Out α} {a : α} {r : DE.Env} (h : noX x = .ok a r) : x = .ok a r := by cases x <;> cases h; rfl
theorem post_noX {α γ δ : Type} {relQ : RelR γ δ} {Q : δ → Hp → Prop} {x : Out α} {k : α → DE.Env → Out γ} (p : Post K W σ o relQ Q ((noX x).bind k)) : ∃ a r, x = .ok a r ∧ Post K W σ o relQ Q (k a r) := by
  cases x with
  | ok a r => exact ⟨a, r, rfl, p⟩
  | exc _ _ _ => exact False.elim p
  | stuck => exact False.elim p
theorem Cur.dropT {T' : List Tmp} (c : Cur K σ o ρ H I F (T ++ T')) : Cur K σ o ρ H I F T := ⟨c.st.weak fun b => by rw [tfp_app]; omega, c.env, fun t ht => c.tm t (List.mem_append_left _ ht)⟩
/-- a new list is laid -/
theorem Cur.newL (c : Cur K σ o ρ H I F T) {D : Addr} (hD : H D = none) : Cur K σ o ρ (upd H D (.lst [])) I F (T ++ [⟨.ref D, .val (.lst true []), sing D⟩]) := by
  have s := Step.newObj (o := .lst []) c.good hD
  have c2 := c.ext (same_upd hD) s
  refine ⟨(c.st.trans s).eqF fun b => by rw [tfp_append]; dsimp only; omega, c2.env, fun t ht => ?_⟩
  rcases List.mem_append.mp ht with z | z
  · exact c2.tm t z
  · cases List.mem_singleton.mp z
    exact .lstO (vs := []) upd_same (Nat.zero_le _) (.nil (F := fun _ => 0) fun _ => rfl) fun b => by dsimp only; omega
theorem OpdRel.slots {σ' : L2.St} {v : V} {op : Opd} {G : Fp} (h : OpdRel K H I σ v op G) (hv : ∃ d, op = .val d) : OpdRel K H I σ' v op G := by
  obtain ⟨d, rfl⟩ := hv
  exact h
/-- the list that is made gets one more -/
theorem acc_push {D : Addr} {ads : List DE.D} {GD G : Fp} {Fr : Fp} {y : V} {d : DE.D} (g : Good (fun b => Fr b + GD b + G b) H I) (ra : Rep K H I (.ref D) (.lst true ads) GD) (ry : Rep K H I y d G) (hz : ads.length < sizeLine) :
    ∃ accv, H D = some (.lst accv) ∧ accv.length < sizeLine ∧ GD D ≠ 0 ∧ Rep K (upd H D (.lst (accv ++ [y]))) I (.ref D) (.lst true (ads ++ [d])) (fun b => GD b + G b) := by
  cases ra with
  | @lstO _ Ga _ accv _ h z r hF =>
    have e := r.length
    have hD1 : GD D ≠ 0 := by rw [hF D, sing_self]; omega
    have key : ∀ b, (Ga b ≠ 0 ∨ G b ≠ 0 ∨ I b) → b ≠ D := fun b hb e' => by
      subst e'
      have h1 := g.one b
      have h2 := hF b
      rw [sing_self] at h2
      rcases hb with z | z | z
      · omega
      · omega
      · exact (g.own b (by omega)).1 z
    have st : ∀ (b : Addr) (o : HO), I b ∨ (fun b => Ga b + G b : Fp) b ≠ 0 → H b = some o → upd H D (.lst (accv ++ [y])) b = some o := fun b o hb ho => by
      rw [upd_ne (key b ?_)]
      · exact ho
      · rcases hb with q | q
        · exact .inr (.inr q)
        · by_cases w : Ga b = 0
          · exact .inr (.inl fun w2 => q (by dsimp only; omega))
          · exact .inl w
    refine ⟨accv, h, by omega, hD1, .lstO upd_same (by rw [List.length_append]; simp only [List.length_cons, List.length_nil]; omega) (((Rep.mono (fun _ q => q)).2 (r.append (.cons ry (.nil (F := fun _ => 0) fun _ => rfl) fun b => rfl)) (fun b o hb ho => st b o (hb.elim .inl fun q => .inr (fun w => q (by omega))) ho)).eqF (G := fun b => Ga b + G b) fun b => by omega) fun b => by have := hF b; omega⟩
/-- what is shared stays -/
theorem Step.imm {F0 F1 : Fp} {H0 H1 : Hp} {I0 I1 : AP} (s : Step F0 H0 I0 F1 H1 I1) (g : Good F0 H0 I0) : ∀ b ob, I0 b → H0 b = some ob → H1 b = some ob := fun b ob hb e => s.keep b ob e (by
  by_cases q : F0 b = 0
  · exact q
  · exact absurd hb (g.own b q).1)
/-- the end of a comprehension's block: its own names come back -/
theorem lc_step {own : List Nat} {S : List Tmp} {σ2 : L2.St} {D : Addr} {ads : List DE.D} {GD G4 : Fp} {y : V} {x : DE.D} {ρ3 : DE.Env} {F4 : Fp} (hw : wipe σ2 own = wipe σ own) (hS : ∀ t ∈ S, ∃ d, t.o = .val d) (hz : ads.length < sizeLine)
    (st : Step o.F o.H o.I (fun b => F4 b + tfp (S ++ [⟨.ref D, .val (.lst true ads), GD⟩]) b + G4 b) H I) (re : RelE K H I σ2 ρ3 F4) (tm : ∀ t ∈ S ++ [⟨.ref D, .val (.lst true ads), GD⟩], OpdRel K H I σ2 t.v t.o t.G) (ry : Rep K H I y x G4) :
    ∃ accv GD' F5, H D = some (.lst accv) ∧ accv.length < sizeLine ∧ Cur K (wipe σ own) o (wipeE ρ3 own) (upd H D (.lst (accv ++ [y]))) I F5 (S ++ [⟨.ref D, .val (.lst true (ads ++ [x])), GD'⟩]) := by
  have ra : Rep K H I (.ref D) (.lst true ads) GD := tm ⟨.ref D, .val (.lst true ads), GD⟩ (by simp)
  have e1 : ∀ b, tfp (S ++ [⟨.ref D, .val (.lst true ads), GD⟩]) b = tfp S b + GD b := fun b => tfp_append _ _ b
  have g0 := st.good
  obtain ⟨accv, h1, h2, h3, h4⟩ := acc_push (Fr := fun b => F4 b + tfp S b) (GD := GD) (G := G4) (g0.mono fun b => by have := e1 b; omega) ra ry hz
  obtain ⟨F5, r5, l5⟩ := re.wiped own
  rw [hw] at r5
  have wr := Step.write (o := .lst (accv ++ [y])) (p := D) g0 (by have := e1 D; omega)
  have keep : ∀ (Fz : Fp), (∀ b, Fz b ≤ F4 b + tfp S b) → ∀ (b : Addr) (ob : HO), I b ∨ Fz b ≠ 0 → H b = some ob → upd H D (.lst (accv ++ [y])) b = some ob := fun Fz hz b ob hb ho => by
    rw [upd_ne]
    · exact ho
    · intro e
      subst e
      have q1 := g0.one b
      have q2 := e1 b
      have q3 := hz b
      rcases hb with z | z
      · exact (g0.own b (by omega)).1 z
      · omega
  refine ⟨accv, fun b => GD b + G4 b, F5, h1, h2, ⟨(st.trans wr).weak fun b => ?_, r5.mono (fun _ q => q) (keep F5 fun b => by have := l5 b; omega), fun t ht => ?_⟩⟩
  · rw [tfp_append]
    have := e1 b; have := l5 b; dsimp only; omega
  · rcases List.mem_append.mp ht with z | z
    · obtain ⟨d, hd⟩ := hS t z
      have q := tm t (List.mem_append_left _ z)
      have tf := fun b => tfp_mem z b
      obtain ⟨v, op, G⟩ := t
      have hd : op = .val d := hd
      subst hd
      exact (Rep.mono (fun _ q => q)).1 (show Rep K H I v d G from q) (keep G fun b => by have := tf b; dsimp only at this; omega)
    · cases List.mem_singleton.mp z
      exact h4
theorem lc_skip {own : List Nat} {S : List Tmp} {σ2 : L2.St} {ρ3 : DE.Env} {F4 : Fp} (hw : wipe σ2 own = wipe σ own) (hS : ∀ t ∈ S, ∃ d, t.o = .val d) (c : Cur K σ2 o ρ3 H I F4 S) :
    ∃ F5, Cur K (wipe σ own) o (wipeE ρ3 own) H I F5 S := by
  obtain ⟨F5, r5, l5⟩ := c.env.wiped own
  rw [hw] at r5
  exact ⟨F5, c.st.weak fun b => by have := l5 b; omega, r5, fun t ht => (c.tm t ht).slots (hS t ht)⟩
end

section
variable {X : Cx} {W : WishX} {c : Ctx} {own : List Nat} {tg : QG} {l : QL} {t : Option QT} {p : PX} {σ : L2.St} {H : Hp} {Q : VK}
/-- the reading of the tests of a block -/
def tsR (X : Cx) (W : WishX) (c : Ctx) : Option QT → TT
  | none => tYes
  | some t => RT X W c t
theorem re_lc (hnd : own.Nodup) (htg : ∀ i ∈ tgSl tg, i ∈ own) (h : RE X W c (.lc own tg l t p) σ H Q) : tLc (RI X W c l) (tgT X.K tg) (tsR X W0 c t) (RE X W0 c p) own σ H Q := by
  obtain ⟨o, ρ, e1, g, r, pp⟩ := h
  subst e1
  have pp : Post X.K W σ o (rD X.K σ) Q ((evL c l ρ).bind fun ds ρ => (noX (lcL own tg (evTo c t) (ev c p) ds [] (wipeE ρ own))).bind fun xs ρ' => .ok (.lst true xs) (backE ρ own ρ')) := pp
  refine ((Cur.start g r).run (rel := rI X.K) pp).mono ?_
  rintro J H1 ⟨ds, ρ1, I1, F1, G, s1, r1, _, ⟨hG, st, y, hst⟩, p1⟩
  obtain ⟨xs, ρF, eL, p2⟩ := post_noX p1
  have c1 : Cur X.K σ o ρ1 H1 I1 F1 [] := ⟨s1.weak fun b => by simp [tfp], r1, fun _ z => nomatch z⟩
  intro D hD
  obtain ⟨Fw, S, rw1, ew, tS, vS, back⟩ := r1.aside hnd
  have c2 : Cur X.K (wipe σ own) o (wipeE ρ1 own) H1 I1 Fw S := ⟨c1.st.eqF fun b => by have := ew b; simp only [tfp]; omega, rw1, fun t ht => (tS t ht).slots (vS t ht)⟩
  have c3 := c2.newL hD
  have hS2 : ∀ {ads : List DE.D} {GD : Fp}, ∀ t ∈ S ++ [⟨.ref D, .val (.lst true ads), GD⟩], ∃ d, t.o = .val d := fun {ads GD} t ht => by
    rcases List.mem_append.mp ht with z | z
    · exact vS t z
    · cases List.mem_singleton.mp z; exact ⟨_, rfl⟩
  refine ⟨fun i m H => m = ds.length - i ∧ i ≤ ds.length ∧ ∃ ads ρi I Fi GD, Cur X.K (wipe σ own) o ρi H I Fi (S ++ [⟨.ref D, .val (.lst true ads), GD⟩]) ∧ ads.length ≤ i ∧ st H I ∧ lcL own tg (evTo c t) (ev c p) (ds.drop i) ads ρi = .ok xs ρF,
    ⟨ds.length, rfl, Nat.zero_le _, [], _, _, _, _, c3, Nat.le_refl _, y.stab hst (fun _ q => q) (fun b ob _ e => same_upd hD b ob e), eL⟩, ?_⟩
  rintro i m H ⟨rfl, hi, ads, ρi, I, Fi, GD, ci, hl, hs, ei⟩
  by_cases hlt : i < ds.length
  · refine .inr ⟨y.go hs hlt, fun H' => i + 1 ≤ ds.length ∧ ∃ ads ρi I Fi GD, Cur X.K (wipe σ own) o ρi H' I Fi (S ++ [⟨.ref D, .val (.lst true ads), GD⟩]) ∧ ads.length ≤ i + 1 ∧ st H' I ∧ lcL own tg (evTo c t) (ev c p) (ds.drop (i + 1)) ads ρi = .ok xs ρF,
      fun H' ⟨h1, h2⟩ => ⟨ds.length - (i + 1), by omega, rfl, h1, h2⟩, fun x H' hy => ?_⟩
    obtain ⟨I', d, sm, stp, hd, rx⟩ := y.yld hs hlt hy ci.good
    have cy := ci.ext (G := fun _ => 0) sm (stp.eqF fun b => by omega)
    have hs' := y.stab hs stp.mono fun b ob _ e => sm b ob e
    have ed : ds.drop i = d :: ds.drop (i + 1) := by
      have h1 : ds[i]? = some ds[i] := List.getElem?_eq_getElem hlt
      rw [h1] at hd
      cases hd
      exact List.drop_eq_getElem_cons hlt
    rw [ed] at ei
    unfold lcL at ei
    cases ea : asg tg d ρi with
    | none => rw [ea] at ei; cases ei
    | some ρ2 =>
      rw [ea] at ei
      refine asg_ok ea cy.env rx fun σ2 F2 r2 l2 o2 e2 => ?_
      have hw : wipe σ2 own = wipe (wipe σ own) own := wipe_same (fun j hj => o2 j fun z => hj (htg j z)) e2
      rw [wipe_idem] at hw
      have hw2 : wipe σ2 own = wipe (wipe σ own) own := by rw [wipe_idem]; exact hw
      refine ⟨by first | exact hw | exact hw2, ?_⟩
      have c4 : Cur X.K σ2 o ρ2 H' I' F2 (S ++ [⟨.ref D, .val (.lst true ads), GD⟩]) := ⟨cy.st.weak fun b => by have := l2 b; omega, r2, fun t ht => (cy.tm t ht).slots (hS2 t ht)⟩
      have hads : ads.length < sizeLine := by have := y.len; omega
      -- the element
      have elt : ∀ {ρ4 : DE.Env} {H4 : Hp} {I4 : AP} {F4 : Fp}, Cur X.K σ2 o ρ4 H4 I4 F4 (S ++ [⟨.ref D, .val (.lst true ads), GD⟩]) → st H4 I4 → (((ev c p ρ4).bind fun x ρ => lcL own tg (evTo c t) (ev c p) (ds.drop (i + 1)) (ads ++ [x]) (wipeE ρ own)) = .ok xs ρF) →
          RE X W0 c p σ2 H4 fun y H5 => ∃ acc, H5 D = some (.lst acc) ∧ acc.length < sizeLine ∧ (i + 1 ≤ ds.length ∧ ∃ ads ρi I Fi GD, Cur X.K (wipe σ own) o ρi (upd H5 D (.lst (acc ++ [y]))) I Fi (S ++ [⟨.ref D, .val (.lst true ads), GD⟩]) ∧ ads.length ≤ i + 1 ∧ st (upd H5 D (.lst (acc ++ [y]))) I ∧ lcL own tg (evTo c t) (ev c p) (ds.drop (i + 1)) ads ρi = .ok xs ρF) := by
        intro ρ4 H4 I4 F4 c5 hs5 ek
        obtain ⟨x, ρ5, h1, h2⟩ := bind_ok ek
        refine c5.known (rel := rD X.K) h1 fun yv H6 I6 F6 G6 s6 q6 r6 t6 ry => ?_
        obtain ⟨accv, GD', F7, q1, q2, q3⟩ := lc_step (σ := σ) hw vS hads s6 r6 t6 ry
        refine ⟨accv, q1, q2, by omega, ads ++ [x], _, I6, F7, GD', q3, by rw [List.length_append]; simp only [List.length_cons, List.length_nil]; omega, ?_, h2⟩
        have hs6 := y.stab hs5 q6.mono (q6.imm c5.good)
        refine y.stab hs6 (fun _ q => q) fun b ob hb e => ?_
        rw [upd_ne]
        · exact e
        · intro z
          subst z
          have ra : Rep X.K H6 I6 (.ref b) (.lst true ads) GD := t6 ⟨.ref b, .val (.lst true ads), GD⟩ (by simp)
          cases ra with
          | lstO _ _ _ hF =>
            have h3 := hF b
            rw [sing_self] at h3
            have h4 := tfp_append S ⟨.ref b, .val (.lst true ads), GD⟩ b
            dsimp only at h4
            exact (s6.good.own b (by omega)).1 hb
      cases t with
      | none =>
        simp only [tsR, tYes, if_true]
        exact elt c4 hs' ei
      | some tt =>
        have ei : ((evT c tt ρ2).bind fun b ρ => if b then (ev c p ρ).bind fun x ρ => lcL own tg (some (evT c tt)) (ev c p) (ds.drop (i + 1)) (ads ++ [x]) (wipeE ρ own) else lcL own tg (some (evT c tt)) (ev c p) (ds.drop (i + 1)) ads (wipeE ρ own)) = .ok xs ρF := ei
        obtain ⟨b, ρ3, h1, h2⟩ := bind_ok ei
        refine c4.known (rel := rB) h1 fun b' H6 I6 F6 G6 s6 q6 r6 t6 ⟨eb, zb⟩ => ?_
        subst eb
        have hs6 := y.stab hs' q6.mono (q6.imm c4.good)
        have c5 : Cur X.K σ2 o ρ3 H6 I6 F6 (S ++ [⟨.ref D, .val (.lst true ads), GD⟩]) := ⟨s6.weak fun b => by omega, r6, t6⟩
        cases b' with
        | true =>
          rw [if_pos rfl]
          exact elt c5 hs6 h2
        | false =>
          rw [if_neg Bool.false_ne_true]
          obtain ⟨F7, c6⟩ := lc_skip (σ := σ) hw hS2 c5
          exact ⟨by omega, ads, _, I6, F7, GD, c6, by omega, hs6, h2⟩
  · have e : i = ds.length := by omega
    subst e
    refine .inl ⟨y.stop hs, ?_⟩
    rw [List.drop_length] at ei
    cases ei
    have ra : Rep X.K H I (.ref D) (.lst true xs) GD := ci.tm ⟨.ref D, .val (.lst true xs), GD⟩ (by simp)
    refine p2 (.ref D) H I (fun b => Fi b + tfp S b) GD (ci.st.eqF fun b => by rw [tfp_append]; dsimp only; omega) (back ci.env fun t ht => (ci.tm t (List.mem_append_left _ ht)).slots (vS t ht)) ra
end
end DE
/-! # DeP: dict comprehensions, sorted by a key -/
namespace DE
open PySem PySem.Spec PyProof.Rows L2

section
variable {K : PySem.W.Frag} {W : WishX} {σ : L2.St} {o : Org} {ρ ρ' : DE.Env} {H : Hp} {I : AP} {F : Fp} {T : List Tmp}
theorem any_key : ∀ {kvs : List (Key × V)} {ds : List (D × D)} {k : Key}, ds.map (·.1) = kvs.map (fun p => kD p.1) → (ds.any fun p => eqD p.1 (kD k)) = kvs.any fun p => decide (p.1 = k)
  | [], [], _, _ => rfl
  | [], _ :: _, _, e => by cases e
  | _ :: _, [], _, e => by cases e
  | (k', v') :: kvs, (d', e') :: ds, k, e => by
    simp only [List.map_cons, List.cons.injEq] at e
    obtain ⟨e1, e2⟩ := e
    subst e1
    rw [List.any_cons, List.any_cons, any_key e2, eqD_kD]
theorem put_map {v : V} {d : D} (rv : Rep K H I v d (fun _ => 0)) (k : Key) : ∀ {kvs : List (Key × V)} {ds : List (D × D)}, ds.map (·.1) = kvs.map (fun p => kD p.1) → Reps K H I (kvs.map (·.2)) (ds.map (·.2)) (fun _ => 0) →
    (ds.map (fun p => if eqD p.1 (kD k) then (p.1, d) else p)).map (·.1) = (kvs.map fun p => if p.1 = k then (p.1, v) else p).map (fun p => kD p.1) ∧
    Reps K H I ((kvs.map fun p => if p.1 = k then (p.1, v) else p).map (·.2)) ((ds.map (fun p => if eqD p.1 (kD k) then (p.1, d) else p)).map (·.2)) (fun _ => 0)
  | [], [], _, r => ⟨rfl, .nil fun _ => rfl⟩
  | [], _ :: _, e, _ => by cases e
  | _ :: _, [], e, _ => by cases e
  | (k', v') :: kvs, (d', e') :: ds, e, r => by
    simp only [List.map_cons, List.cons.injEq] at e
    obtain ⟨e1, e2⟩ := e
    subst e1
    cases r with
    | @cons _ F1 F2 _ _ _ _ a t hF =>
      have z1 : ∀ b, F1 b = 0 := fun b => by have h0 : 0 = F1 b + F2 b := hF b; omega
      have z2 : ∀ b, F2 b = 0 := fun b => by have h0 : 0 = F1 b + F2 b := hF b; omega
      obtain ⟨h1, h2⟩ := put_map rv k e2 (t.eqF fun b => (z2 b).symm)
      simp only [List.map_cons, eqD_kD]
      by_cases c : k' = k
      · simp only [c, decide_true, if_true]
        exact ⟨by rw [h1], .cons rv h2 fun _ => rfl⟩
      · simp only [c, decide_false, if_false]
        exact ⟨by rw [← h1]; rfl, .cons (a.eqF fun b => (z1 b).symm) h2 fun _ => rfl⟩
theorem put_rep {v : V} {d : D} (rv : Rep K H I v d (fun _ => 0)) {k : Key} {kvs : List (Key × V)} {ds : List (D × D)} (e : ds.map (·.1) = kvs.map (fun p => kD p.1)) (r : Reps K H I (kvs.map (·.2)) (ds.map (·.2)) (fun _ => 0)) :
    (putD ds (kD k) d).map (·.1) = (putK kvs k v).map (fun p => kD p.1) ∧ Reps K H I ((putK kvs k v).map (·.2)) ((putD ds (kD k) d).map (·.2)) (fun _ => 0) := by
  unfold putD putK
  rw [any_key e]
  split
  · exact put_map rv k e r
  · refine ⟨by rw [List.map_append, List.map_append, e]; rfl, ?_⟩
    rw [List.map_append, List.map_append]
    exact (r.append (.cons rv (.nil (F := fun _ => 0) fun _ => rfl) fun b => rfl)).eqF fun b => rfl
/-- a dict whose keys are ints and texts -/
theorem Rep.dicK {a : Addr} {o : Bool} {ds : List (D × D)} {F : Fp} (r : Rep K H I (.ref a) (.dic o ds) F) (hk : ds.all fun p => isKey p.1) : ∃ kvs G, H a = some (.dK kvs) ∧ ds.map (·.1) = kvs.map (fun p => kD p.1) ∧ Reps K H I (kvs.map (·.2)) (ds.map (·.2)) G ∧ (∀ b, G b ≤ F b) ∧ (o = true → ∀ b, F b = sing a b + G b) := by
  have no : ∀ {kvs : List (List Key × V)}, kvs ≠ [] → ds.map (·.1) = kvs.map (fun p => .tup (p.1.map kD)) → False := fun {kvs} hn e => by
    cases kvs with
    | nil => exact hn rfl
    | cons q kvs =>
      cases ds with
      | nil => cases e
      | cons p ds =>
        rw [List.all_cons, Bool.and_eq_true] at hk
        simp only [List.map_cons, List.cons.injEq] at e
        rw [e.1] at hk
        cases hk.1
  cases r with
  | dKS a1 a2 a3 a4 a5 hF => exact ⟨_, _, a2, a3, a4, fun b => by rw [a5 b]; omega, fun z => nomatch z⟩
  | dKO a1 a2 a3 hF => exact ⟨_, _, a1, a2, a3, fun b => by rw [hF b]; omega, fun _ => hF⟩
  | dTS a1 a2 an a3 a4 a5 hF => exact (no an a3).elim
  | dTO a1 an a2 a3 hF => exact (no an a2).elim
theorem putD_keys {ds : List (D × D)} {k v : D} (h : ds.all fun p => isKey p.1 && shd p.2) (hk : isKey k = true) (hv : shd v = true) : (putD ds k v).all (fun p => isKey p.1 && shd p.2) = true := by
  unfold putD
  split
  · rw [List.all_map]
    rw [List.all_eq_true] at h ⊢
    intro p hp
    have := h p hp
    simp only [Function.comp]
    split
    · simp only [Bool.and_eq_true] at this ⊢
      exact ⟨this.1, hv⟩
    · exact this
  · rw [List.all_append, h]
    simp [hk, hv]
theorem putD_length (ds : List (D × D)) (k v : D) : (putD ds k v).length ≤ ds.length + 1 := by
  unfold putD
  split
  · rw [List.length_map]; omega
  · rw [List.length_append]; simp
/-- a new dict is laid -/
theorem Cur.newD (c : Cur K σ o ρ H I F T) {D : Addr} (hD : H D = none) : Cur K σ o ρ (upd H D (.dK [])) I F (T ++ [⟨.ref D, .val (.dic true []), sing D⟩]) := by
  have s := Step.newObj (o := .dK []) c.good hD
  have c2 := c.ext (same_upd hD) s
  refine ⟨(c.st.trans s).eqF fun b => by rw [tfp_append]; dsimp only; omega, c2.env, fun t ht => ?_⟩
  rcases List.mem_append.mp ht with z | z
  · exact c2.tm t z
  · cases List.mem_singleton.mp z
    exact .dKO (kvs := []) (ds := []) upd_same rfl (.nil (F := fun _ => 0) fun _ => rfl) fun b => by dsimp only; omega
/-- an own dict gets an entry -/
theorem dic_put {a : Addr} {ds : List (D × D)} {GD Fr : Fp} {v : V} {d : D} {k : Key} (g : Good (fun b => Fr b + GD b) H I) (ra : Rep K H I (.ref a) (.dic true ds) GD) (hk : ds.all fun p => isKey p.1 && shd p.2) (rv : Rep K H I v d (fun _ => 0)) :
    ∃ kvs, H a = some (.dK kvs) ∧ kvs.length = ds.length ∧ GD a ≠ 0 ∧ Rep K (upd H a (.dK (putK kvs k v))) I (.ref a) (.dic true (putD ds (kD k) d)) GD := by
  have hk1 : (ds.all fun p => isKey p.1) = true := by
    rw [List.all_eq_true] at hk ⊢
    intro p hp
    have := hk p hp
    simp only [Bool.and_eq_true] at this
    exact this.1
  have hk2 : (ds.map (·.2)).all shd = true := by
    rw [List.all_map, List.all_eq_true]
    rw [List.all_eq_true] at hk
    intro p hp
    have := hk p hp
    simp only [Bool.and_eq_true] at this
    exact this.2
  obtain ⟨kvs, G, h1, e, r, _, hF⟩ := ra.dicK hk1
  have hF := hF rfl
  have z := r.shd0 hk2
  have hD : GD a ≠ 0 := by rw [hF a, sing_self]; omega
  obtain ⟨e2, r2⟩ := put_rep rv (k := k) e (r.eqF fun b => (z b).symm)
  refine ⟨kvs, h1, by have := congrArg List.length e; simpa using this.symm, hD, .dKO upd_same e2 ((Rep.mono fun _ q => q).2 r2 fun b ob hb ho => ?_) fun b => by rw [hF b, z b]⟩
  rw [upd_ne]
  · exact ho
  · intro w
    subst w
    rcases hb with q | q
    · exact (g.own b (by omega)).1 q
    · exact q rfl
theorem dc_step {own : List Nat} {S : List Tmp} {σ2 : L2.St} {D : Addr} {ads : List (DE.D × DE.D)} {GD G4 : Fp} {y : V} {x : DE.D} {k : Key} {ρ3 : DE.Env} {F4 : Fp} (hw : wipe σ2 own = wipe σ own) (hS : ∀ t ∈ S, ∃ d, t.o = .val d) (hk : ads.all fun p => isKey p.1 && shd p.2) (hx : shd x = true)
    (st : Step o.F o.H o.I (fun b => F4 b + tfp (S ++ [⟨.ref D, .val (.dic true ads), GD⟩]) b + G4 b) H I) (re : RelE K H I σ2 ρ3 F4) (tm : ∀ t ∈ S ++ [⟨.ref D, .val (.dic true ads), GD⟩], OpdRel K H I σ2 t.v t.o t.G) (ry : Rep K H I y x G4) :
    ∃ kvs F5, H D = some (.dK kvs) ∧ kvs.length = ads.length ∧ Cur K (wipe σ own) o (wipeE ρ3 own) (upd H D (.dK (putK kvs k y))) I F5 (S ++ [⟨.ref D, .val (.dic true (putD ads (kD k) x)), GD⟩]) := by
  have ra : Rep K H I (.ref D) (.dic true ads) GD := tm ⟨.ref D, .val (.dic true ads), GD⟩ (by simp)
  have e1 : ∀ b, tfp (S ++ [⟨.ref D, .val (.dic true ads), GD⟩]) b = tfp S b + GD b := fun b => tfp_append _ _ b
  have g0 := st.good
  obtain ⟨kvs, h1, h2, h3, h4⟩ := dic_put (Fr := fun b => F4 b + tfp S b) (k := k) (g0.mono fun b => by have := e1 b; omega) ra hk (ry.eqF fun b => (ry.shd0 hx b).symm)
  obtain ⟨F5, r5, l5⟩ := re.wiped own
  rw [hw] at r5
  have wr := Step.write (o := .dK (putK kvs k y)) (p := D) g0 (by have := e1 D; omega)
  have keep : ∀ (Fz : Fp), (∀ b, Fz b ≤ F4 b + tfp S b) → ∀ (b : Addr) (ob : HO), I b ∨ Fz b ≠ 0 → H b = some ob → upd H D (.dK (putK kvs k y)) b = some ob := fun Fz hz b ob hb ho => by
    rw [upd_ne]
    · exact ho
    · intro e
      subst e
      have q1 := g0.one b
      have q2 := e1 b
      have q3 := hz b
      rcases hb with z | z
      · exact (g0.own b (by omega)).1 z
      · omega
  refine ⟨kvs, F5, h1, h2, ⟨(st.trans wr).weak fun b => ?_, r5.mono (fun _ q => q) (keep F5 fun b => by have := l5 b; omega), fun t ht => ?_⟩⟩
  · rw [tfp_append]
    have := e1 b; have := l5 b; dsimp only; omega
  · rcases List.mem_append.mp ht with z | z
    · obtain ⟨d, hd⟩ := hS t z
      have q := tm t (List.mem_append_left _ z)
      have tf := fun b => tfp_mem z b
      obtain ⟨v, op, G⟩ := t
      have hd : op = .val d := hd
      subst hd
      exact (Rep.mono (fun _ q => q)).1 (show Rep K H I v d G from q) (keep G fun b => by have := tf b; dsimp only at this; omega)
    · cases List.mem_singleton.mp z
      exact h4
end
section
variable {X : Cx} {W : WishX} {c : Ctx} {own : List Nat} {tg : QG} {l : QL} {t : Option QT} {p q : PX} {σ : L2.St} {H : Hp} {Q : VK}
theorem re_dc (hnd : own.Nodup) (htg : ∀ i ∈ tgSl tg, i ∈ own) (h : RE X W c (.dc own tg l t p q) σ H Q) : tDc (RI X W c l) (tgT X.K tg) (tsR X W0 c t) (RE X W0 c p) (RE X W0 c q) own σ H Q := by
  obtain ⟨o, ρ, e1, g, r, pp⟩ := h
  subst e1
  have pp : Post X.K W σ o (rD X.K σ) Q ((evL c l ρ).bind fun ds ρ => (noX (dcL own tg (evTo c t) (ev c p) (ev c q) ds [] (wipeE ρ own))).bind fun xs ρ' => .ok (.dic true xs) (backE ρ own ρ')) := pp
  refine ((Cur.start g r).run (rel := rI X.K) pp).mono ?_
  rintro J H1 ⟨ds, ρ1, I1, F1, G, s1, r1, _, ⟨hG, st, y, hst⟩, p1⟩
  obtain ⟨xs, ρF, eL, p2⟩ := post_noX p1
  have c1 : Cur X.K σ o ρ1 H1 I1 F1 [] := ⟨s1.weak fun b => by simp [tfp], r1, fun _ z => nomatch z⟩
  intro D hD
  obtain ⟨Fw, S, rw1, ew, tS, vS, back⟩ := r1.aside hnd
  have c2 : Cur X.K (wipe σ own) o (wipeE ρ1 own) H1 I1 Fw S := ⟨c1.st.eqF fun b => by have := ew b; simp only [tfp]; omega, rw1, fun t ht => (tS t ht).slots (vS t ht)⟩
  have c3 := c2.newD hD
  have hS2 : ∀ {ads : List (DE.D × DE.D)} {GD : Fp}, ∀ t ∈ S ++ [⟨.ref D, .val (.dic true ads), GD⟩], ∃ d, t.o = .val d := fun {ads GD} t ht => by
    rcases List.mem_append.mp ht with z | z
    · exact vS t z
    · cases List.mem_singleton.mp z; exact ⟨_, rfl⟩
  refine ⟨fun i m H => m = ds.length - i ∧ i ≤ ds.length ∧ ∃ ads ρi I Fi GD, Cur X.K (wipe σ own) o ρi H I Fi (S ++ [⟨.ref D, .val (.dic true ads), GD⟩]) ∧ (ads.length ≤ i ∧ ads.all fun p => isKey p.1 && shd p.2) ∧ st H I ∧ dcL own tg (evTo c t) (ev c p) (ev c q) (ds.drop i) ads ρi = .ok xs ρF,
    ⟨ds.length, rfl, Nat.zero_le _, [], _, _, _, _, c3, ⟨Nat.le_refl _, rfl⟩, y.stab hst (fun _ q => q) (fun b ob _ e => same_upd hD b ob e), eL⟩, ?_⟩
  rintro i m H ⟨rfl, hi, ads, ρi, I, Fi, GD, ci, ⟨hl, hkk⟩, hs, ei⟩
  by_cases hlt : i < ds.length
  · refine .inr ⟨y.go hs hlt, fun H' => i + 1 ≤ ds.length ∧ ∃ ads ρi I Fi GD, Cur X.K (wipe σ own) o ρi H' I Fi (S ++ [⟨.ref D, .val (.dic true ads), GD⟩]) ∧ (ads.length ≤ i + 1 ∧ ads.all fun p => isKey p.1 && shd p.2) ∧ st H' I ∧ dcL own tg (evTo c t) (ev c p) (ev c q) (ds.drop (i + 1)) ads ρi = .ok xs ρF,
      fun H' ⟨h1, h2⟩ => ⟨ds.length - (i + 1), by omega, rfl, h1, h2⟩, fun x H' hy => ?_⟩
    obtain ⟨I', d, sm, stp, hd, rx⟩ := y.yld hs hlt hy ci.good
    have cy := ci.ext (G := fun _ => 0) sm (stp.eqF fun b => by omega)
    have hs' := y.stab hs stp.mono fun b ob _ e => sm b ob e
    have ed : ds.drop i = d :: ds.drop (i + 1) := by
      have h1 : ds[i]? = some ds[i] := List.getElem?_eq_getElem hlt
      rw [h1] at hd
      cases hd
      exact List.drop_eq_getElem_cons hlt
    rw [ed] at ei
    unfold dcL at ei
    cases ea : asg tg d ρi with
    | none => rw [ea] at ei; cases ei
    | some ρ2 =>
      rw [ea] at ei
      refine asg_ok ea cy.env rx fun σ2 F2 r2 l2 o2 e2 => ?_
      have hw : wipe σ2 own = wipe (wipe σ own) own := wipe_same (fun j hj => o2 j fun z => hj (htg j z)) e2
      rw [wipe_idem] at hw
      refine ⟨hw, ?_⟩
      have c4 : Cur X.K σ2 o ρ2 H' I' F2 (S ++ [⟨.ref D, .val (.dic true ads), GD⟩]) := ⟨cy.st.weak fun b => by have := l2 b; omega, r2, fun t ht => (cy.tm t ht).slots (hS2 t ht)⟩
      have hads : ads.length < sizeLine := by have := y.len; omega
      -- the entry
      have elt : ∀ {ρ4 : DE.Env} {H4 : Hp} {I4 : AP} {F4 : Fp}, Cur X.K σ2 o ρ4 H4 I4 F4 (S ++ [⟨.ref D, .val (.dic true ads), GD⟩]) → st H4 I4 →
          (((ev c p ρ4).bind fun k ρ => (ev c q ρ).bind fun v ρ => if isKey k && shd v then dcL own tg (evTo c t) (ev c p) (ev c q) (ds.drop (i + 1)) (putD ads k v) (wipeE ρ own) else .stuck) = .ok xs ρF) →
          RE X W0 c p σ2 H4 fun y H5 => RE X W0 c q σ2 H5 fun z H6 => ∃ kvs k, y = kV k ∧ H6 D = some (.dK kvs) ∧ kvs.length < sizeLine ∧ (i + 1 ≤ ds.length ∧ ∃ ads ρi I Fi GD, Cur X.K (wipe σ own) o ρi (upd H6 D (.dK (putK kvs k z))) I Fi (S ++ [⟨.ref D, .val (.dic true ads), GD⟩]) ∧ (ads.length ≤ i + 1 ∧ ads.all fun p => isKey p.1 && shd p.2) ∧ st (upd H6 D (.dK (putK kvs k z))) I ∧ dcL own tg (evTo c t) (ev c p) (ev c q) (ds.drop (i + 1)) ads ρi = .ok xs ρF) := by
        intro ρ4 H4 I4 F4 c5 hs5 ek
        obtain ⟨kx, ρ5, h1, h2⟩ := bind_ok ek
        obtain ⟨vx, ρ6, h3, h4⟩ := bind_ok h2
        split at h4
        · rename_i hkv
          rw [Bool.and_eq_true] at hkv
          obtain ⟨key, rfl⟩ := isKey_kD hkv.1
          refine c5.known (rel := rD X.K) h1 fun kv H6 I6 F6 G6 s6 q6 r6 t6 rk => ?_
          have ek := rk.key
          subst ek
          have hs6 := y.stab hs5 q6.mono (q6.imm c5.good)
          have c6 : Cur X.K σ2 o ρ5 H6 I6 F6 (S ++ [⟨.ref D, .val (.dic true ads), GD⟩]) := ⟨s6.weak fun b => by omega, r6, t6⟩
          refine c6.known (rel := rD X.K) h3 fun yv H7 I7 F7 G7 s7 q7 r7 t7 ry => ?_
          have hs7 := y.stab hs6 q7.mono (q7.imm c6.good)
          obtain ⟨kvs, F8, q1, q2, q3⟩ := dc_step (σ := σ) (k := key) hw vS hkk hkv.2 s7 r7 t7 ry
          refine ⟨kvs, key, rfl, q1, by omega, by omega, putD ads (kD key) vx, _, I7, F8, GD, q3, ⟨by have := putD_length ads (kD key) vx; omega, putD_keys hkk hkv.1 hkv.2⟩, ?_, h4⟩
          refine y.stab hs7 (fun _ q => q) fun b ob hb e => ?_
          rw [upd_ne]
          · exact e
          · intro z
            subst z
            have ra : Rep X.K H7 I7 (.ref b) (.dic true ads) GD := t7 ⟨.ref b, .val (.dic true ads), GD⟩ (by simp)
            have hk1 : (ads.all fun p => isKey p.1) = true := by
              rw [List.all_eq_true] at hkk ⊢
              intro p hp
              have := hkk p hp
              simp only [Bool.and_eq_true] at this
              exact this.1
            obtain ⟨_, _, _, _, _, _, hF⟩ := ra.dicK hk1
            have h3 := hF rfl b
            rw [sing_self] at h3
            have h4 := tfp_append S ⟨.ref b, .val (.dic true ads), GD⟩ b
            dsimp only at h4
            exact (s7.good.own b (by omega)).1 hb
        · cases h4
      cases t with
      | none =>
        simp only [tsR, tYes, if_true]
        exact elt c4 hs' ei
      | some tt =>
        have ei : ((evT c tt ρ2).bind fun b ρ => if b then ((ev c p ρ).bind fun k ρ => (ev c q ρ).bind fun v ρ => if isKey k && shd v then dcL own tg (some (evT c tt)) (ev c p) (ev c q) (ds.drop (i + 1)) (putD ads k v) (wipeE ρ own) else .stuck) else dcL own tg (some (evT c tt)) (ev c p) (ev c q) (ds.drop (i + 1)) ads (wipeE ρ own)) = .ok xs ρF := ei
        obtain ⟨b, ρ3, h1, h2⟩ := bind_ok ei
        refine c4.known (rel := rB) h1 fun b' H6 I6 F6 G6 s6 q6 r6 t6 ⟨eb, zb⟩ => ?_
        subst eb
        have hs6 := y.stab hs' q6.mono (q6.imm c4.good)
        have c5 : Cur X.K σ2 o ρ3 H6 I6 F6 (S ++ [⟨.ref D, .val (.dic true ads), GD⟩]) := ⟨s6.weak fun b => by omega, r6, t6⟩
        cases b' with
        | true =>
          rw [if_pos rfl]
          exact elt c5 hs6 h2
        | false =>
          rw [if_neg Bool.false_ne_true]
          obtain ⟨F7, c6⟩ := lc_skip (σ := σ) hw hS2 c5
          exact ⟨by omega, ads, _, I6, F7, GD, c6, ⟨by omega, hkk⟩, hs6, h2⟩
  · have e : i = ds.length := by omega
    subst e
    refine .inl ⟨y.stop hs, ?_⟩
    rw [List.drop_length] at ei
    cases ei
    have ra : Rep X.K H I (.ref D) (.dic true xs) GD := ci.tm ⟨.ref D, .val (.dic true xs), GD⟩ (by simp)
    refine p2 (.ref D) H I (fun b => Fi b + tfp S b) GD (ci.st.eqF fun b => by rw [tfp_append]; dsimp only; omega) (back ci.env fun t ht => (ci.tm t (List.mem_append_left _ ht)).slots (vS t ht)) ra
end
end DE
/-! # DeQ: where a text stands; comprehensions; targets -/
namespace DE
open PySem PySem.Spec PyProof.Rows L2

/-- the built-in names that are used -/
def bltNames : List Str := ["len", "abs", "int", "max", "min", "sum", "all", "any", "list", "tuple", "sorted", "isinstance", "bool", "str", "dict", "range", "zip"]
structure CxOk (X : Cx) (s : Scp) (c : Ctx) : Prop where
  N : X.N = s.N
  sc : X.env.scope = s.sc
  fn : X.fn = s.fn
  nd : X.N.Nodup
  calm : X.calm = true
  hu : X.A.units + 66 < cLine
  blt : ∀ x ∈ bltNames, X.mg x = none
  sig : s.sig = c.sig
  fns : ∀ x g, c.sig x = some g → FnFact X c x g
section
variable {X : Cx} {s : Scp} {c : Ctx}
theorem CxOk.blk (k : CxOk X s c) (sh : Shared) (H : Hp) (scope : Scope) (cl : List (Str × Addr)) (C : Addr) (fp : List Addr) : CxOk (X.blk sh H scope (compEnvC scope cl C X.env) fp) (s.blk scope) c where
  N := k.N
  sc := by show relS scope X.env.scope = relS scope s.sc; rw [k.sc]
  fn := rfl
  nd := k.nd
  calm := k.calm
  hu := k.hu
  blt := k.blt
  sig := k.sig
  fns := fun x g h => by
    obtain ⟨f, fd, kk, h1, h2, h3, h4, h5⟩ := (k.fns x g h).ex
    exact ⟨f, fd, kk, h1, h2, h3, h4, h5⟩
theorem storeOf_ok {x : Str} {i : Nat} (k : CxOk X s c) (h : storeOf s x = some i) : X.N[i]? = some x ∧ Loc X.env.scope x ∧ (X.fn x = true ∨ X.env.scope.names.lookup x = some .local) := by
  unfold storeOf at h
  split at h
  · cases h
  · rw [k.N, k.sc, k.fn]
    cases e : s.sc.names.lookup x with
    | none => rw [e] at h; cases h
    | some nk =>
      rw [e] at h
      cases nk <;> simp only at h
      case «local» => exact ⟨ixOf_get h, .inl e, .inr rfl⟩
      case cell =>
        split at h
        · rename_i hf; exact ⟨ixOf_get h, .inr e, .inl hf⟩
        · cases h
      all_goals cases h
theorem slotOf_ok {x : Str} {i : Nat} (k : CxOk X s c) (h : slotOf s x = some i) : X.N[i]? = some x ∧ Vis X.env.scope x ∧ badName x = false := by
  unfold slotOf at h
  split at h
  · cases h
  · rename_i hb
    rw [k.N, k.sc]
    cases e : s.sc.names.lookup x with
    | none => rw [e] at h; cases h
    | some nk =>
      rw [e] at h
      cases nk <;> simp only at h
      case «local» => exact ⟨ixOf_get h, .inl e, by simpa using hb⟩
      case cell => exact ⟨ixOf_get h, .inr (.inl e), by simpa using hb⟩
      case free => exact ⟨ixOf_get h, .inr (.inr e), by simpa using hb⟩
      all_goals cases h
theorem isGl_ok {x : Str} (k : CxOk X s c) (h : isGl s x = true) : Gl X x ∧ (x == ("__debug__" : Str)) = false ∧ x ≠ "__name__" := by
  unfold isGl at h
  rw [Bool.and_eq_true] at h
  obtain ⟨h1, h2⟩ := h
  refine ⟨?_, ?_, ?_⟩
  · show X.env.scope.names.lookup x = some .globalImplicit
    rw [k.sc]
    simpa using h2
  · unfold badName at h1
    simp at h1
    simpa using h1.1.1
  · unfold badName at h1
    simp at h1
    exact fun z => h1.2 (by simpa using z)
theorem pgs_slots (k : CxOk X s c) : ∀ {es : List Expr} {is : List Nat}, slotsS s es = some is → PGs X es (gNms is) ∧ (assignEach es X.env).length = is.length ∧ (assignEach es X.env).findIdx? (·.1) = none
  | [], is, h => by cases h; exact ⟨pgs_nil, rfl, rfl⟩
  | e :: r, is, h => by
    cases e with
    | Name x p =>
      have h : (match storeOf s x, slotsS s r with
        | some i, some is => some (i :: is)
        | _, _ => none) = some is := h
      cases e1 : storeOf s x with
      | none => rw [e1] at h; cases h
      | some i =>
        cases e2 : slotsS s r with
        | none => rw [e1, e2] at h; cases h
        | some js =>
          rw [e1, e2] at h
          cases h
          obtain ⟨h1, h2, h3⟩ := pgs_slots k e2
          obtain ⟨q1, q2, q3⟩ := storeOf_ok k e1
          refine ⟨pgs_cons (pg_name k.nd q1 q2 q3) h1, congrArg (· + 1) h2, ?_⟩
          show ((false, assign (.Name x p) X.env) :: assignEach r X.env).findIdx? (·.1) = none
          rw [List.findIdx?_cons]
          simp only [Bool.false_eq_true, if_false, h3]
          rfl
    | _ => cases h
theorem pg_tg (k : CxOk X s c) {tg : Expr} {g : QG} (h : tgOf s tg = some g) : PG X tg (tgT X.K g) := by
  cases tg with
  | Name x p =>
    have h : (storeOf s x).map .nm = some g := h
    cases e : storeOf s x with
    | none => rw [e] at h; cases h
    | some i =>
      rw [e] at h; cases h
      obtain ⟨q1, q2, q3⟩ := storeOf_ok k e
      exact pg_name k.nd q1 q2 q3
  | Tuple es kk p =>
    have h : (slotsS s es).map .tp = some g := h
    cases e : slotsS s es with
    | none => rw [e] at h; cases h
    | some is =>
      rw [e] at h; cases h
      obtain ⟨h1, h2, h3⟩ := pgs_slots k e
      exact pg_tup k.calm h1 h2 h3
  | _ => cases h
end
section
variable {X : Cx} {W : WishX} {s : Scp} {c : Ctx} {tg it elt kx vx : Expr} {ifs : List Expr} {scope : Scope} {own : List (Str × Nat)} {g : QG} {l : QL} {t : Option QT} {p q : PX} {pos : Pos}
theorem fold_no (h : isSetD it = false) (env : PySem.Env) (x : Value) : foldedSetIterable it env x = pure x := by
  cases it <;> first | rfl | cases h
/-- what is known of a block's parts -/
structure BlkP (X : Cx) (s : Scp) (c : Ctx) (tg : Expr) (it : Expr) (ifs : List Expr) (scope : Scope) (own : List (Str × Nat)) (g : QG) (l : QL) (t : Option QT) (W : WishX) : Prop where
  blk : blkC s.N s.sc scope own = true
  nd : (own.map (·.2)).Nodup
  tgk : tgOf (s.blk scope) tg = some g
  sub : ∀ i ∈ tgSl g, i ∈ own.map (·.2)
  wlk : PI X tg it (RI X W c l)
  nset : isSetD it = false
  ts : ∀ (X' : Cx), X'.K = X.K → CxOk X' (s.blk scope) c → PTs X' ifs (tsR X' W0 c t)
theorem blk_ok (k : CxOk X s c) (h : blkC s.N s.sc scope own = true) : BlkOk X.N X.env.scope scope own := by rw [k.N, k.sc]; exact blkOk_by h
theorem eo_lc (k : CxOk X s c) (b : BlkP X s c tg it ifs scope own g l t W) (he : ∀ (X' : Cx), X'.K = X.K → CxOk X' (s.blk scope) c → EOk X' W0 c elt p) :
    EOk X W c (.ListComp elt [⟨tg, it, ifs, 0⟩] scope pos) (.lc (own.map (·.2)) g l t p) :=
  .of (fun _ z => nomatch z) ((pe_lc k.calm k.nd b.wlk (blk_ok k b.blk) (fun sh H C cl fp => pg_tg (k.blk sh H scope cl C fp) b.tgk)
    (fun sh H C cl fp => b.ts (X.blk sh H scope (compEnvC scope cl C X.env) fp) rfl (k.blk sh H scope cl C fp)) (fun sh H C cl fp => (he (X.blk sh H scope (compEnvC scope cl C X.env) fp) rfl (k.blk sh H scope cl C fp)).val) (fold_no b.nset _)).imp fun σ H Q h => re_lc b.nd b.sub h)
theorem eo_dc (k : CxOk X s c) (b : BlkP X s c tg it ifs scope own g l t W) (hk : ∀ (X' : Cx), X'.K = X.K → CxOk X' (s.blk scope) c → EOk X' W0 c kx p) (hv : ∀ (X' : Cx), X'.K = X.K → CxOk X' (s.blk scope) c → EOk X' W0 c vx q) :
    EOk X W c (.DictComp kx vx [⟨tg, it, ifs, 0⟩] scope pos) (.dc (own.map (·.2)) g l t p q) :=
  .of (fun _ z => nomatch z) ((pe_dc k.calm k.nd b.wlk (blk_ok k b.blk) (fun sh H C cl fp => pg_tg (k.blk sh H scope cl C fp) b.tgk)
    (fun sh H C cl fp => b.ts (X.blk sh H scope (compEnvC scope cl C X.env) fp) rfl (k.blk sh H scope cl C fp)) (fun sh H C cl fp => (hk (X.blk sh H scope (compEnvC scope cl C X.env) fp) rfl (k.blk sh H scope cl C fp)).val) (fun sh H C cl fp => (hv (X.blk sh H scope (compEnvC scope cl C X.env) fp) rfl (k.blk sh H scope cl C fp)).val) (fold_no b.nset _)).imp fun σ H Q h => re_dc b.nd b.sub h)
end
end DE
/-! # DeR: statements -/
namespace DE
open PySem PySem.Spec PyProof.Rows L2

/-- the parameters that the function may change: their slots hold what they held -/
def Kept (fx : List Nat) (σ0 σ : L2.St) : Prop := ∀ i ∈ fx, σ[i]? = σ0[i]?
def SPost (K : PySem.W.Frag) (W : WishX) (σ0 : L2.St) (o : Org) (fx : List Nat) (D : Ends) : SOut → Prop
  | .nx ρ => ∀ σ H I F, Step o.F o.H o.I F H I → RelE K H I σ ρ F → Kept fx σ0 σ → D.nx σ H
  | .bk ρ => ∀ σ H I F, Step o.F o.H o.I F H I → RelE K H I σ ρ F → Kept fx σ0 σ → D.bk σ H
  | .ct ρ => ∀ σ H I F, Step o.F o.H o.I F H I → RelE K H I σ ρ F → Kept fx σ0 σ → D.ct σ H
  | .rt d ρ => ∀ v σ H I F G, Step o.F o.H o.I (fun b => F b + G b) H I → RelE K H I σ ρ F → Rep K H I v d G → Kept fx σ0 σ → D.rt v H
  | .exc c x ρ => ∀ v σ H I F G, Step o.F o.H o.I (fun b => F b + G b) H I → RelE K H I σ ρ F → Rep K H I v x G → Kept fx σ0 σ → W c v σ H
  | .stuck => False
def RSt (X : Cx) (W : WishX) (fx : List Nat) (g : DE.Env → SOut) : TS := fun D σ H => ∃ (o : Org) (ρ : DE.Env), o.H = H ∧ Good o.F o.H o.I ∧ RelE X.K o.H o.I σ ρ o.F ∧ SPost X.K W σ o fx D (g ρ)
abbrev RS (X : Cx) (W : WishX) (c : Ctx) (fx : List Nat) (p : QS) : TS := RSt X W fx (ex c p)
abbrev RSs (X : Cx) (W : WishX) (c : Ctx) (fx : List Nat) (p : QSs) : TS := RSt X W fx (exs c p)
section
variable {K : PySem.W.Frag} {W : WishX} {σ : L2.St} {o : Org} {ρ : DE.Env} {H : Hp} {I : AP} {F : Fp} {T : List Tmp} {fx : List Nat} {D : Ends}
theorem Kept.refl : Kept fx σ σ := fun _ _ => rfl
theorem Kept.trans {σ1 σ2 : L2.St} (a : Kept fx σ σ1) (b : Kept fx σ1 σ2) : Kept fx σ σ2 := fun i h => (b i h).trans (a i h)
theorem SPost.rebase {σ1 : L2.St} {H1 : Hp} {I1 : AP} {F1 : Fp} (s : Step o.F o.H o.I F1 H1 I1) (k : Kept fx σ σ1) : ∀ {x : SOut}, SPost K W σ o fx D x → SPost K W σ1 ⟨F1, H1, I1⟩ fx D x
  | .nx _, p => fun σ2 H I F s2 r q => p σ2 H I F (s.trans s2) r (k.trans q)
  | .bk _, p => fun σ2 H I F s2 r q => p σ2 H I F (s.trans s2) r (k.trans q)
  | .ct _, p => fun σ2 H I F s2 r q => p σ2 H I F (s.trans s2) r (k.trans q)
  | .rt _ _, p => fun v σ2 H I F G s2 r y q => p v σ2 H I F G (s.trans s2) r y (k.trans q)
  | .exc _ _ _, p => fun v σ2 H I F G s2 r y q => p v σ2 H I F G (s.trans s2) r y (k.trans q)
  | .stuck, p => p
/-- a part of a statement is run -/
theorem Cur.runS {α β : Type} {rel : L2.St → RelR α β} {g : DE.Env → Out α} {k : α → DE.Env → SOut} (c : Cur K σ o ρ H I F T) (p : SPost K W σ o fx D ((g ρ).toS k)) :
    Rd K W rel g σ H (fun b H' => ∃ a ρ' I' F' G, Step o.F o.H o.I (fun x => F' x + tfp T x + G x) H' I' ∧ RelE K H' I' σ ρ' F' ∧ (∀ t ∈ T, OpdRel K H' I' σ t.v t.o t.G) ∧ rel σ H' I' b a G ∧ SPost K W σ o fx D (k a ρ')) := by
  refine ⟨⟨F, H, I⟩, ρ, rfl, c.goodE, c.env, ?_⟩
  have frm : ∀ {H' : Hp} {I' : AP} {F' G : Fp}, Step F H I (fun x => F' x + G x) H' I' → Step o.F o.H o.I (fun x => F' x + tfp T x + G x) H' I' ∧ (∀ t ∈ T, OpdRel K H' I' σ t.v t.o t.G) := fun {H' I' F' G} s => by
    refine ⟨(c.st.trans (s.frame c.good)).eqF fun b => by omega, fun t ht => (c.tm t ht).step s (c.good.mono fun b => by have := tfp_mem ht b; omega)⟩
  cases e : g ρ with
  | ok a ρ' =>
    rw [e] at p
    intro b H' I' F' G s r rr
    obtain ⟨h1, h2⟩ := frm s
    exact ⟨a, ρ', I', F', G, h1, r, h2, rr, p⟩
  | exc x y ρ' =>
    rw [e] at p
    intro v H' I' F' G s r rr
    obtain ⟨h1, _⟩ := frm s
    exact p v σ H' I' F' G (h1.weak fun b => by omega) r rr Kept.refl
  | stuck => rw [e] at p; exact p
/-- .. an operand: it is put behind the others -/
theorem Cur.runSO {g : DE.Env → Out Opd} {k : Opd → DE.Env → SOut} (c : Cur K σ o ρ H I F T) (p : SPost K W σ o fx D ((g ρ).toS k)) {R : V → Hp → Prop}
    (h : ∀ v H' a ρ' I' F' G, Cur K σ o ρ' H' I' F' (T ++ [⟨v, a, G⟩]) → SPost K W σ o fx D (k a ρ') → R v H') : Rd K W (rO K) g σ H R := by
  refine (c.runS (rel := rO K) p).mono ?_
  rintro v H' ⟨a, ρ', I', F', G, s, r, tm, rr, p'⟩
  refine h v H' a ρ' I' F' G ⟨s.eqF fun b => by rw [tfp_append]; dsimp only; omega, r, fun t ht => ?_⟩ p'
  rcases List.mem_append.mp ht with z | z
  · exact tm t z
  · cases List.mem_singleton.mp z
    exact rr
/-- .. a value -/
theorem Cur.runSD {g : DE.Env → Out DE.D} {k : DE.D → DE.Env → SOut} (c : Cur K σ o ρ H I F T) (p : SPost K W σ o fx D ((g ρ).toS k)) {R : V → Hp → Prop}
    (h : ∀ v H' d ρ' I' F' G, Cur K σ o ρ' H' I' F' (T ++ [⟨v, .val d, G⟩]) → SPost K W σ o fx D (k d ρ') → R v H') : Rd K W (rD K) g σ H R := by
  refine (c.runS (rel := rD K) p).mono ?_
  rintro v H' ⟨a, ρ', I', F', G, s, r, tm, rr, p'⟩
  refine h v H' a ρ' I' F' G ⟨s.eqF fun b => by rw [tfp_append]; dsimp only; omega, r, fun t ht => ?_⟩ p'
  rcases List.mem_append.mp ht with z | z
  · exact tm t z
  · cases List.mem_singleton.mp z
    exact rr
end
section
variable {X : Cx} {W : WishX} {c : Ctx} {fx : List Nat} {tg e a b : Expr} {p q : PX} {g : QG} {pos : Pos} {st : Stmt} {sts us : List Stmt} {D : Ends} {σ : L2.St} {H : Hp}
theorem ss_nil : PSs X [] (RSs X W c fx .nil) := pss_nil.imp fun D σ H ⟨o, ρ, e1, gd, r, pp⟩ => by
  subst e1
  exact pp σ o.H o.I o.F (Step.refl gd) r Kept.refl
theorem ss_cons {s : QS} {r : QSs} (h1 : PS X st (RS X W c fx s)) (h2 : PSs X sts (RSs X W c fx r)) : PSs X (st :: sts) (RSs X W c fx (.cons s r)) := (pss_cons h1 h2).imp fun D σ H ⟨o, ρ, e1, gd, re, pp⟩ => by
  subst e1
  have pp : SPost X.K W σ o fx D ((ex c s ρ).seq (exs c r)) := pp
  refine ⟨o, ρ, rfl, gd, re, ?_⟩
  cases q : ex c s ρ with
  | nx ρ1 =>
    rw [q] at pp
    intro σ1 H1 I1 F1 s1 r1 k1
    exact ⟨⟨F1, H1, I1⟩, ρ1, rfl, s1.good, r1, SPost.rebase s1 k1 pp⟩
  | rt _ _ => rw [q] at pp; exact pp
  | bk _ => rw [q] at pp; exact pp
  | ct _ => rw [q] at pp; exact pp
  | exc _ _ _ => rw [q] at pp; exact pp
  | stuck => rw [q] at pp; exact pp
/-- the slots that are stored to are none of the kept ones -/
def FxOk (fx : List Nat) (g : QG) : Prop := ∀ i ∈ tgSl g, i ∉ fx
/-- the value that came is stored -/
theorem rs_asg (hf : FxOk fx g) (h : RS X W c fx (.set g p) D σ H) : tAsg (RE X W c p) (tgT X.K g) D σ H := by
  obtain ⟨o, ρ, e1, gd, r, pp⟩ := h
  subst e1
  have pp : SPost X.K W σ o fx D ((ev c p ρ).toS fun d ρ => match asg g d ρ with
    | some ρ => .nx ρ
    | none => .stuck) := pp
  refine ((Cur.start gd r).runS (rel := rD X.K) pp).mono ?_
  rintro v H1 ⟨d, ρ1, I1, F1, G, s1, r1, _, rr, p1⟩
  cases e : asg g d ρ1 with
  | none => rw [e] at p1; exact False.elim p1
  | some ρ2 =>
    rw [e] at p1
    refine asg_ok e r1 rr fun σ2 F2 r2 l2 o2 _ => ?_
    exact p1 σ2 H1 I1 F2 (s1.weak fun b => by have := l2 b; simp only [tfp]; omega) r2 fun i hi => o2 i fun z => hf i z hi
theorem st_exp (he : EOk X W c e p) (hs : swapsWith e none pos.line X.env = pure false) : PS X (.Expr e pos) (RS X W c fx (.exp p)) := (ps_expr he.val hs).imp fun D σ H ⟨o, ρ, e1, gd, r, pp⟩ => by
  subst e1
  have pp : SPost X.K W σ o fx D ((ev c p ρ).toS fun _ ρ => .nx ρ) := pp
  refine ((Cur.start gd r).runS (rel := rD X.K) pp).mono ?_
  rintro v H1 ⟨d, ρ1, I1, F1, G, s1, r1, _, rr, p1⟩
  exact p1 σ H1 I1 F1 (s1.weak fun b => by simp only [tfp]; omega) r1 Kept.refl
theorem st_if {t : QT} {x y : QSs} (ht : L2.PT X e (RT X W c t)) (ha : PSs X sts (RSs X W c fx x)) (hb : PSs X us (RSs X W c fx y)) : PS X (.If e sts us pos) (RS X W c fx (.ifs t x y)) := (ps_if ht ha hb).imp fun D σ H ⟨o, ρ, e1, gd, r, pp⟩ => by
  subst e1
  have pp : SPost X.K W σ o fx D ((evT c t ρ).toS fun k ρ => if k then exs c x ρ else exs c y ρ) := pp
  refine ((Cur.start gd r).runS (rel := rB) pp).mono ?_
  rintro k H1 ⟨k', ρ1, I1, F1, G, s1, r1, _, ⟨ek, zk⟩, p1⟩
  subst ek
  have s2 : Step o.F o.H o.I F1 H1 I1 := s1.weak fun b => by simp only [tfp]; omega
  cases k with
  | true => exact ⟨⟨F1, H1, I1⟩, ρ1, rfl, s2.good, r1, SPost.rebase s2 Kept.refl p1⟩
  | false => exact ⟨⟨F1, H1, I1⟩, ρ1, rfl, s2.good, r1, SPost.rebase s2 Kept.refl p1⟩
theorem st_retN : PS X (.Return none pos) (RS X W c fx .retN) := ps_retN.imp fun D σ H ⟨o, ρ, e1, gd, r, pp⟩ => by
  subst e1
  exact pp .non σ o.H o.I o.F (fun _ => 0) ((Step.refl gd).eqF fun b => by omega) r (.non fun _ => rfl) Kept.refl
theorem st_never : PS X st (RS X W c fx .never) := ps_never.imp fun D σ H ⟨o, ρ, e1, gd, r, pp⟩ => pp
theorem st_ret (hp : ∀ i, p ≠ .var i) (he : EOk X W c e p) : PS X (.Return (some e) pos) (RS X W c fx (.ret p)) := (ps_ret he.val).imp fun D σ H ⟨o, ρ, e1, gd, r, pp⟩ => by
  subst e1
  have pp : SPost X.K W σ o fx D ((ev c p ρ).toS fun d ρ => .rt d ρ) := by
    cases p <;> first | exact pp | exact absurd rfl (hp _)
  refine ((Cur.start gd r).runS (rel := rD X.K) pp).mono ?_
  rintro v H1 ⟨d, ρ1, I1, F1, G, s1, r1, _, rr, p1⟩
  exact p1 v σ H1 I1 F1 G (s1.weak fun b => by simp only [tfp]; omega) r1 rr Kept.refl
theorem st_retV {i : Nat} (he : PE X e (tVar i)) : PS X (.Return (some e) pos) (RS X W c fx (.ret (.var i))) := (ps_ret he).imp fun D σ H ⟨o, ρ, e1, gd, r, pp⟩ => by
  subst e1
  have pp : SPost X.K W σ o fx D (match (ρ[i]?).join with
      | some d => .rt d (ρ.set i none)
      | none => .stuck) := pp
  cases e : (ρ[i]?).join with
  | none => rw [e] at pp; exact False.elim pp
  | some d =>
    rw [e] at pp
    have e2 : ρ[i]? = some (some d) := by
      cases q : ρ[i]? with
      | none => rw [q] at e; cases e
      | some z => rw [q] at e; exact congrArg some e
    obtain ⟨v, G, F', h1, h2, h3, h4⟩ := r.take e2
    exact ⟨v, h1, pp v σ o.H o.I F' G ((Step.refl gd).weak fun b => by have := h4 b; omega) h3 h2 Kept.refl⟩
end
end DE
/-! # DeS: stores into lists and dicts, append, for -/
namespace DE
open PySem PySem.Spec PyProof.Rows L2

section
variable {K : PySem.W.Frag} {W : WishX} {σ : L2.St} {o : Org} {ρ : DE.Env} {H : Hp} {I : AP} {F : Fp} {T : List Tmp} {fx : List Nat} {D : Ends}
theorem join_some {j : Nat} {d : DE.D} (e : (ρ[j]?).join = some d) : ρ[j]? = some (some d) := by
  cases q : ρ[j]? with
  | none => rw [q] at e; cases e
  | some z => rw [q] at e; exact congrArg some e
/-- an owned thing in a slot is changed by a value that is shared from then on -/
theorem Cur.mutate {j : Nat} {d0 d1 : DE.D} {v : V} {dv : DE.D} {Gv : Fp} {p : Addr} {ob : HO} (c : Cur K σ o ρ H I F T) (ht : (⟨v, .val dv, Gv⟩ : Tmp) ∈ T) (hσ : σ[j]? = some (some (.ref p))) (e : (ρ[j]?).join = some d0)
    (k : ∀ G', Rep K H (isIm I Gv) (.ref p) d0 G' → Rep K H (isIm I Gv) v (share dv) (fun _ => 0) → Good G' H (isIm I Gv) → G' p ≠ 0 ∧ ∃ G1, Rep K (upd H p ob) (isIm I Gv) (.ref p) d1 G1 ∧ ∀ b, G1 b ≤ G' b)
    (pp : SPost K W σ o fx D (.nx (ρ.set j (some d1)))) : D.nx σ (upd H p ob) := by
  obtain ⟨v', G', F', h1, h2, h3, h4⟩ := c.env.take (join_some e)
  rw [hσ] at h1
  cases h1
  have rv : Rep K H I v dv Gv := c.tm _ ht
  have hT := fun b => tfp_mem ht b
  have g : Good (fun b => (F' b + G' b) + Gv b) H I := c.good.mono fun b => by have := h4 b; have := hT b; dsimp only at this ⊢; omega
  have s1 := Step.share g
  have g1 := s1.good
  obtain ⟨hp, G1, r1, l1⟩ := k G' (h2.up fun b z => .inl z) (rv.share _ fun b z => z) (g1.mono fun b => by omega)
  have s2 := Step.write (o := ob) g1 (p := p) (by omega)
  have keep : ∀ (b : Addr) (u : HO), isIm I Gv b ∨ F' b ≠ 0 → H b = some u → upd H p ob b = some u := fun b u hb e => by
    rw [upd_ne]
    · exact e
    · intro z
      subst z
      have q := g1.one b
      rcases hb with w | w
      · exact (g1.own b (by omega)).1 w
      · omega
  have env := (RelE.mono (I' := isIm I Gv) (fun b z => .inl z) h3 (fun b u hb e => keep b u (hb.elim (fun z => .inl (.inl z)) .inr) e)).put hσ c.env.length r1
  have s0 : Step o.F o.H o.I (fun b => (F' b + G' b) + Gv b) H I := c.st.weak fun b => by have := h4 b; have := hT b; dsimp only at this ⊢; omega
  exact pp σ _ (isIm I Gv) _ (((s0.trans s1).trans s2).weak fun b => by have := l1 b; omega) env Kept.refl
end

section
variable {X : Cx} {W : WishX} {c : Ctx} {fx : List Nat} {tg e a b it : Expr} {p q r : PX} {g : QG} {l : QL} {pos tpos p1 p2 p3 : Pos} {sts : List Stmt} {body : QSs} {D : Ends} {σ : L2.St} {H : Hp}
def rSetU : TSet := fun o i v H Q => rSetL o i v H Q ∨ rSetD o i v H Q
theorem set_u (hu : X.A.units + 1 < cLine) : PSet X rSetU := fun pins s σ H o i v ov iv u Q I ro ri rv h => h.elim (fun h => set_list pins s σ H o i v ov iv u Q I ro ri rv h) fun h => set_dict hu pins s σ H o i v ov iv u Q I ro ri rv h
theorem ixD_lt {n : Nat} {i : Int} {j : Nat} (h : ixD n i = some j) : j < n := (ixN_seq h).2.1
theorem set_step {o : Org} {ρ : DE.Env} {I : AP} {F : Fp} {v vo vi : V} {d : DE.D} {x y : Opd} {Gv G1 G2 : Fp} (cu : Cur X.K σ o ρ H I F [⟨v, .val d, Gv⟩, ⟨vo, x, G1⟩, ⟨vi, y, G2⟩]) (pp : SPost X.K W σ o fx D (setO x y d ρ)) : rSetU vo vi v H fun H3 => D.nx σ H3 := by
  cases x with
  | val _ => exact False.elim pp
  | slot j =>
    obtain ⟨hσ, _⟩ : σ[j]? = some (some vo) ∧ ∀ b, G1 b = 0 := cu.tm ⟨vo, .slot j, G1⟩ (by simp)
    unfold setO at pp
    dsimp only at pp
    split at pp
    · rename_i xs i e1 e2
      split at pp
      · rename_i n en
        split at pp
        · rename_i hs
          obtain ⟨v', G', F', h1, h2, h3, h4⟩ := cu.env.take (join_some e1)
          rw [hσ] at h1
          cases h1
          obtain ⟨Gi, ri, _⟩ := cu.opd (t := ⟨vi, y, G2⟩) (by simp) e2
          cases ri with
          | int _ hz =>
          cases h2 with
          | @lstO _ Ga p vs _ hh hlen rr hF =>
            left
            refine ⟨p, vs, i, n, rfl, rfl, hh, by rw [rr.length, ← ixD_ixN]; exact en, ?_⟩
            refine cu.mutate (v := v) (dv := d) (Gv := Gv) (by simp) hσ e1 (fun Gz rz rv gz => ?_) pp
            cases rz with
            | @lstO _ Gb _ ws _ hh2 hlen2 rr2 hF2 =>
              rw [hh] at hh2
              cases hh2
              have z := rr2.shd0 hs
              have hp : Gz p ≠ 0 := by rw [hF2 p, sing_self]; omega
              refine ⟨hp, Gz, .lstO upd_same (by rw [List.length_set]; exact hlen) ((Rep.mono (fun _ q => q)).2 (rr2.set n rv z fun _ => rfl) fun b ob hb ho => ?_) hF2, fun _ => Nat.le_refl _⟩
              rw [upd_ne]
              · exact ho
              · intro w
                subst w
                rcases hb with q | q
                · exact (gz.own _ hp).1 q
                · exact q (z _)
        · exact False.elim pp
      · exact False.elim pp
    · rename_i kvs k e1 e2
      split at pp
      · rename_i hc
        simp only [Bool.and_eq_true] at hc
        obtain ⟨⟨hk, hkk⟩, hz⟩ := hc
        obtain ⟨key, rfl⟩ := isKey_kD hk
        obtain ⟨v', G', F', h1, h2, h3, h4⟩ := cu.env.take (join_some e1)
        rw [hσ] at h1
        cases h1
        obtain ⟨Gi, ri, _⟩ := cu.opd (t := ⟨vi, y, G2⟩) (by simp) e2
        have ei : vi = kV key := ri.key
        have hk1 : (kvs.all fun p => isKey p.1) = true := by
          rw [List.all_eq_true] at hkk ⊢
          intro p hp
          have := hkk p hp
          simp only [Bool.and_eq_true] at this
          exact this.1
        obtain ⟨pa, rfl⟩ : ∃ pa, vo = .ref pa := by cases h2 <;> exact ⟨_, rfl⟩
        obtain ⟨ks, Gk, hh, he, _, _, _⟩ := h2.dicK hk1
        have hl : ks.length = kvs.length := by have := congrArg List.length he; simpa using this.symm
        right
        refine ⟨pa, _, rfl, by rw [ei]; exact DPut.k hh (by have := sizeOk_le hz; omega), ?_⟩
        refine cu.mutate (v := v) (dv := d) (Gv := Gv) (by simp) hσ e1 (fun Gz rz rv gz => ?_) pp
        obtain ⟨ks2, q1, q2, q3, q4⟩ := dic_put (Fr := fun _ => 0) (k := key) (gz.mono fun b => by omega) rz hkk rv
        rw [hh] at q1
        cases q1
        exact ⟨q3, Gz, q4, fun _ => Nat.le_refl _⟩
      · exact False.elim pp
    · exact False.elim pp
theorem st_setI (hu : X.A.units + 66 < cLine) (he : EOk X W c e p) (hc : isComp e = false) (ho : EOk X W c a q) (hi : EOk X W c b r) (hs : isSlice b = false) : PS X (.Assign [.Subscript a b tpos] e pos) (RS X W c fx (.setI q r p)) := by
  refine (ps_asg he.val (pg_sub (pos := tpos) ho.opd hi.opd (set_u (by omega)) (fun v => by cases b <;> first | rfl | cases hs)) (by cases e <;> first | rfl | cases hc)).imp fun D σ H ⟨o, ρ, e1, gd, re, pp⟩ => ?_
  subst e1
  have pp : SPost X.K W σ o fx D ((ev c p ρ).toS fun v ρ => (mkOpd q (ev c q) ρ).toS fun x ρ => (mkOpd r (ev c r) ρ).toS fun y ρ => setO x y v ρ) := pp
  refine (Cur.start gd re).runSD pp fun v H1 d ρ1 I1 F1 Gv c1 q1 => ?_
  refine c1.runSO q1 fun vo H2 x ρ2 I2 F2 G1 c2 q2 => ?_
  refine c2.runSO q2 fun vi H3 y ρ3 I3 F3 G2 c3 q3 => ?_
  exact set_step c3 q3
theorem st_app (ho : EOk X W c a q) (ha : EOk X W c b r) (hcall : ∀ f xs ks z, a ≠ .Call f xs ks z) (hs : isStar b = false) (hl : (p2.endLine == p3.line) = true) : PS X (.Expr (.Call (.Attribute a "append" p2) [b] [] p3) pos) (RS X W c fx (.app q r)) := by
  refine (ps_expr (pe_bm PySem.F.plainAttrs_list PySem.F.slot_list_append PySem.F.type_list_append mt_append ho.opd (pa_cons ha.val pa_nil (starEach_cons hs _)) (by cases a <;> first | rfl | exact absurd rfl (hcall _ _ _ _)) (by rw [starEach_cons hs]; rfl) hl (starEach_cons hs _) rfl) rfl).imp fun D σ H ⟨o, ρ, e1, gd, re, pp⟩ => ?_
  subst e1
  have pp : SPost X.K W σ o fx D ((mkOpd q (ev c q) ρ).toS fun x ρ => if isLst x ρ then (ev c r ρ).toS fun v ρ => appO x v ρ else .stuck) := pp
  refine (Cur.start gd re).runSO pp fun vo H1 x ρ1 I1 F1 G1 c1 q1 => ?_
  split at q1
  · rename_i hl
    unfold isLst at hl
    split at hl
    · rename_i o1 xs1 eg
      obtain ⟨Gx, rx, _⟩ := c1.opd (t := ⟨vo, x, G1⟩) (by simp) eg
      obtain ⟨pa, vs, G, e1, hh, _, _, _⟩ := rx.lstR
      subst e1
      refine ⟨.inl ⟨rfl, vs, SqL.of hh⟩, ?_⟩
      refine c1.runSD q1 fun v H2 d ρ2 I2 F2 Gv c2 q2 => ?_
      cases x with
      | val _ => exact False.elim q2
      | slot j =>
        obtain ⟨hσ, _⟩ : σ[j]? = some (some (.ref pa)) ∧ ∀ b, G1 b = 0 := c2.tm ⟨.ref pa, .slot j, G1⟩ (by simp)
        unfold appO at q2
        dsimp only at q2
        split at q2
        · rename_i xs e2
          split at q2
          · rename_i hz
            obtain ⟨v', G', F', h1, h2, h3, h4⟩ := c2.env.take (join_some e2)
            rw [hσ] at h1
            cases h1
            cases h2 with
            | @lstO _ Ga p vs2 _ hh2 hlen rr hF =>
              have hz := sizeOk_le hz
              have hl := rr.length
              refine ⟨pa, vs2, v, rfl, rfl, hh2, by omega, ?_⟩
              refine c2.mutate (v := v) (dv := d) (Gv := Gv) (by simp) hσ e2 (fun Gz rz rv gz => ?_) q2
              obtain ⟨accv, w1, w2, w3, w4⟩ := acc_push (Fr := fun _ => 0) (G := fun _ => 0) (gz.mono fun b => by omega) rz rv (by omega)
              rw [hh2] at w1
              cases w1
              exact ⟨w3, _, w4, fun b => by omega⟩
          · exact False.elim q2
        · exact False.elim q2
    · cases hl
  · exact False.elim q1
theorem st_for (hp : PassesOwn (model X.prog X.w) X.A X.env X.xe) (hcalm : X.calm = true) (hf : FxOk fx g) (hi : PI X tg it (RI X W c l)) (hg : PG X tg (tgT X.K g)) (hb : PSs X sts (RSs X W c fx body)) (hs : isSetD it = false) :
    PS X (.For tg it sts [] pos) (RS X W c fx (.fr g l body)) := (ps_for hp hcalm hi hg hb (fold_no hs _)).imp fun D σ H ⟨o, ρ, e1, gd, re, pp⟩ => by
  subst e1
  have pp : SPost X.K W σ o fx D ((evL c l ρ).toS fun ds ρ => forL g (exs c body) ds ρ) := pp
  refine ((Cur.start gd re).runS (rel := rI X.K) pp).mono ?_
  rintro J H1 ⟨ds, ρ1, I1, F1, G, s1, r1, _, ⟨hG, st, y, hst⟩, p1⟩
  have s1' : Step o.F o.H o.I F1 H1 I1 := s1.weak fun b => by simp only [tfp]; omega
  refine ⟨fun i m σi Hi => m = ds.length - i ∧ i ≤ ds.length ∧ ∃ ρi I F, Step o.F o.H o.I F Hi I ∧ RelE X.K Hi I σi ρi F ∧ Kept fx σ σi ∧ st Hi I ∧ SPost X.K W σ o fx D (forL g (exs c body) (ds.drop i) ρi),
    ⟨ds.length, rfl, Nat.zero_le _, ρ1, I1, F1, s1', r1, Kept.refl, hst, p1⟩, ?_⟩
  rintro i m σi Hi ⟨rfl, hi, ρi, I, F, si, ri, ki, hsi, pi⟩
  by_cases hlt : i < ds.length
  · refine .inr ⟨y.go hsi hlt, fun σ' H' => i + 1 ≤ ds.length ∧ ∃ ρi I F, Step o.F o.H o.I F H' I ∧ RelE X.K H' I σ' ρi F ∧ Kept fx σ σ' ∧ st H' I ∧ SPost X.K W σ o fx D (forL g (exs c body) (ds.drop (i + 1)) ρi),
      fun σ' H' ⟨h1, h2⟩ => ⟨ds.length - (i + 1), by omega, rfl, h1, h2⟩, fun x H' hy => ?_⟩
    obtain ⟨I', d, sm, stp, hd, rx⟩ := y.yld hsi hlt hy si.good
    have cy : Cur X.K σi o ρi H' I' F [] := ⟨(si.trans stp).eqF fun b => by simp [tfp], ri.mono stp.mono fun b u _ e => sm b u e, fun _ z => nomatch z⟩
    have hs' := y.stab hsi stp.mono fun b ob _ e => sm b ob e
    have ed : ds.drop i = d :: ds.drop (i + 1) := by
      have h1 : ds[i]? = some ds[i] := List.getElem?_eq_getElem hlt
      rw [h1] at hd
      cases hd
      exact List.drop_eq_getElem_cons hlt
    rw [ed] at pi
    unfold forL at pi
    cases ea : asg g d ρi with
    | none => rw [ea] at pi; exact False.elim pi
    | some ρ2 =>
      rw [ea] at pi
      dsimp only at pi
      refine asg_ok ea cy.env rx fun σ2 F2 r2 l2 o2 _ => ?_
      have s2 : Step o.F o.H o.I F2 H' I' := cy.st.weak fun b => by have := l2 b; simp only [tfp]; omega
      have k2 : Kept fx σi σ2 := fun j hj => o2 j fun z => hf j z hj
      have again : ∀ {ρ3 : DE.Env}, SPost X.K W σ o fx D (forL g (exs c body) (ds.drop (i + 1)) ρ3) → ∀ σ3 H3 I3 F3, Step F2 H' I' F3 H3 I3 → RelE X.K H3 I3 σ3 ρ3 F3 → Kept fx σ2 σ3 →
          i + 1 ≤ ds.length ∧ ∃ ρi I F, Step o.F o.H o.I F H3 I ∧ RelE X.K H3 I σ3 ρi F ∧ Kept fx σ σ3 ∧ st H3 I ∧ SPost X.K W σ o fx D (forL g (exs c body) (ds.drop (i + 1)) ρi) := fun {ρ3} pz σ3 H3 I3 F3 s3 r3 k3 =>
        ⟨by omega, ρ3, I3, F3, s2.trans s3, r3, (ki.trans k2).trans k3, y.stab hs' s3.mono (s3.imm s2.good), pz⟩
      refine ⟨⟨F2, H', I'⟩, ρ2, rfl, s2.good, r2, ?_⟩
      cases eb : exs c body ρ2 with
      | nx ρ3 => rw [eb] at pi; exact again pi
      | ct ρ3 => rw [eb] at pi; exact again pi
      | bk ρ3 =>
        rw [eb] at pi
        intro σ3 H3 I3 F3 s3 r3 k3
        exact pi σ3 H3 I3 F3 (s2.trans s3) r3 ((ki.trans k2).trans k3)
      | rt d ρ3 =>
        rw [eb] at pi
        exact SPost.rebase s2 (ki.trans k2) (x := .rt d ρ3) pi
      | exc n z ρ3 =>
        rw [eb] at pi
        exact SPost.rebase s2 (ki.trans k2) (x := .exc n z ρ3) pi
      | stuck => rw [eb] at pi; exact False.elim pi
  · have e : i = ds.length := by omega
    subst e
    refine .inl ⟨y.stop hsi, ?_⟩
    rw [List.drop_length] at pi
    exact pi σi Hi I F si ri ki
end
end DE
/-! # DeT: names and tuples of names that take a value -/
namespace DE
open PySem PySem.Spec PyProof.Rows L2

theorem filterMap_short {α β : Type} {f : α → Option β} : ∀ {l : List α}, (l.any fun x => (f x).isNone) = true → (l.filterMap f).length < l.length
  | [], h => by cases h
  | x :: r, h => by
    rw [List.any_cons, Bool.or_eq_true] at h
    have hle : (r.filterMap f).length ≤ r.length := List.length_filterMap_le _ _
    cases e : f x with
    | none => rw [List.filterMap_cons_none e]; simp; omega
    | some y =>
      rw [List.filterMap_cons_some e]
      rcases h with h | h
      · rw [e] at h; cases h
      · have := filterMap_short h
        show (r.filterMap f).length + 1 < r.length + 1
        omega
theorem swapped_no {ts es : List Expr} {k k2 : Nat} {p p2 : Pos} {env : PySem.Env} (h : (ts.any fun t => match nameE t with
  | some x => env.scope.names.lookup x != some .local
  | none => true) = true) : swappedStores [.Tuple ts k p] (.Tuple es k2 p2) env = pure none := by
  unfold swappedStores
  dsimp only
  split
  · rfl
  · split
    · rfl
    · split
      · rfl
      · rename_i hh
        exfalso
        apply hh
        rw [Bool.or_eq_true]
        left
        rw [bne_iff_ne]
        refine Nat.ne_of_lt (filterMap_short ?_)
        rw [List.any_eq_true] at h ⊢
        obtain ⟨t, ht, hn⟩ := h
        refine ⟨t, ht, ?_⟩
        cases t with
        | Name x pos =>
          have hn : (env.scope.names.lookup x != some .local) = true := hn
          rw [bne_iff_ne] at hn
          dsimp only
          have : (env.kindOf x == some .local) = false := by
            rw [beq_eq_false_iff_ne]; exact hn
          rw [this]; rfl
        | _ => rfl
section
variable {X : Cx} {s : Scp} {W : WishX} {c : Ctx} {fx : List Nat} {tg e it elt kx vx : Expr} {ifs : List Expr} {p q r : PX} {g : QG} {l : QL} {pos tpos p1 p2 p3 spos py : Pos} {scope : Scope} {own : List (Str × Nat)} {t : Option QT} {y : Str} {i : Nat}
theorem st_set (k : CxOk X s c) (hi : storeOf s y = some i) (hf : FxOk fx (.nm i)) (he : EOk X W c e p) (hc : isComp e = false) : PS X (.Assign [.Name y py] e pos) (RS X W c fx (.set (.nm i) p)) := by
  obtain ⟨q1, q2, q3⟩ := storeOf_ok k hi
  exact (ps_set k.nd q1 q2 he.val (by cases e <;> first | rfl | cases hc) q3).imp fun D σ H h => rs_asg hf h
theorem st_tup {ts : List Expr} {kk : Nat} (k : CxOk X s c) (hg : tgOf s (.Tuple ts kk tpos) = some g) (hf : FxOk fx g) (he : EOk X W c e p) (hc : isComp e = false) (hw : swappedStores [.Tuple ts kk tpos] e X.env = pure none) :
    PS X (.Assign [.Tuple ts kk tpos] e pos) (RS X W c fx (.set g p)) :=
  (ps_asg he.val (pg_tg k hg) (by cases e <;> first | rfl | cases hc) hw).imp fun D σ H h => rs_asg hf h
theorem st_setLc (k : CxOk X s c) (hi : storeOf s y = some i) (hf : FxOk fx (.nm i)) (b : BlkP X s c tg it ifs scope own g l t W) (he : ∀ (X' : Cx), X'.K = X.K → CxOk X' (s.blk scope) c → EOk X' W0 c elt p) :
    PS X (.Assign [.Name y py] (.ListComp elt [⟨tg, it, ifs, 0⟩] scope pos) spos) (RS X W c fx (.set (.nm i) (.lc (own.map (·.2)) g l t p))) := by
  obtain ⟨q1, q2, q3⟩ := storeOf_ok k hi
  have hb : ∃ b, swapsWith (.ListComp elt [⟨tg, it, ifs, 0⟩] scope pos) (some (.Name y py)) spos.line X.env = pure b ∧ (b = true → X.env.scope.names.lookup y = some .local) := ⟨_, rfl, fun h => by
    simp only [Bool.and_eq_true] at h
    exact eq_of_beq h.1.1.2⟩
  obtain ⟨bb, hb, hl⟩ := hb
  cases bb with
  | false => exact (ps_set k.nd q1 q2 (eo_lc k b he).val hb q3).imp fun D σ H h => rs_asg hf h
  | true => exact (ps_setLc (tt := tsR X W0 c t) (te := RE X W0 c p) k.calm k.nd q1 (hl rfl) hb b.wlk (blk_ok k b.blk) (fun sh H C cl fp => pg_tg (k.blk sh H scope cl C fp) b.tgk)
      (fun sh H C cl fp => b.ts (X.blk sh H scope (compEnvC scope cl C X.env) fp) rfl (k.blk sh H scope cl C fp)) (fun sh H C cl fp => (he (X.blk sh H scope (compEnvC scope cl C X.env) fp) rfl (k.blk sh H scope cl C fp)).val) (fold_no b.nset _)).imp fun D σ H h => re_lc b.nd b.sub (rs_asg hf h)
/-- name = {..} on one line, the name a local: as ps_setLc of the kit's layer -/
theorem ps_setDc {wi : TI} {g : TG} {tt : TT} {tk tv : TE} (hc : X.calm = true) (hN : X.N.Nodup) (hy : X.N[i]? = some y) (hyl : X.env.scope.names.lookup y = some .local)
    (hsw : swapsWith (.DictComp kx vx [⟨tg, it, ifs, 0⟩] scope pos) (some (.Name y py)) spos.line X.env = pure true) (hi : PI X tg it wi) (ok : BlkOk X.N X.env.scope scope own)
    (hg : ∀ (s : Shared) (H : Hp) (C : Addr) (cl : List (Str × Addr)) (fp : List Addr), PG (X.blk s H scope (compEnvC scope cl C X.env) fp) tg g) (ht : ∀ (s : Shared) (H : Hp) (C : Addr) (cl : List (Str × Addr)) (fp : List Addr), PTs (X.blk s H scope (compEnvC scope cl C X.env) fp) ifs tt)
    (hk : ∀ (s : Shared) (H : Hp) (C : Addr) (cl : List (Str × Addr)) (fp : List Addr), PE (X.blk s H scope (compEnvC scope cl C X.env) fp) kx tk)
    (he : ∀ (s : Shared) (H : Hp) (C : Addr) (cl : List (Str × Addr)) (fp : List Addr), PE (X.blk s H scope (compEnvC scope cl C X.env) fp) vx tv) (hs : ∀ x, foldedSetIterable it X.env x = pure x) :
    PS X (.Assign [.Name y py] (.DictComp kx vx [⟨tg, it, ifs, 0⟩] scope pos) spos) (tAsg (tDc wi g tt tk tv (own.map (·.2))) (gName i)) := by
  refine ⟨fun pins s σ H D I h => ?_⟩
  rw [exec_Assign_Name_used _ _ _ _ hsw]
  refine wpAny_bind (wpAny_standAt (wpAny_bind ?_))
  show wpAny _ X.A (do let _ ← comprehension (.DictComp kx vx [⟨tg, it, ifs, 0⟩] scope pos) scope X.env (firstIterPos [⟨tg, it, ifs, 0⟩] pos) newDict false (eval it X.env) (some (assign (.Name y py) X.env))) _ _ s
  have h : tDc wi g tt tk tv (own.map (·.2)) σ H (fun x H1 => gName i x σ H1 D.nx) := h
  refine wpAny_bind (thn (dc_core (Qf := fun _ s' => SP X pins D .next s') hc hN I hi ok hg ht hk he hs h fun L C s' m H' I' q hn f => ?_) fun _ s' hq => wpAny_pure (wpAny_pure hq))
  show wpAny _ _ (assign (.Name y py) X.env (.ref L)) _ _ _
  refine wpAny_assign_Name (store_ok2 (v := V.ref L) I' hN hy (.inl hyl) rfl (fun s2 I2 ⟨a, sb, ha⟩ => ?_) (.inr hyl))
  obtain ⟨f0, f1, f2, f3, f4, f5⟩ := f
  have haC : C ≠ a := by
    rcases ha with z | z
    · rw [z]; exact f1
    · exact fun e => f4 y a z e.symm
  refine ⟨m, hn.sameBut sb haC, fun h3 sb3 => ?_⟩
  exact ⟨_, H', I2.turned (t' := s2.toks) (fun b o hb e => (sb3.2 b hb).trans e) f0 f1 f3 f4 f5, q⟩
theorem st_setDc (k : CxOk X s c) (hi : storeOf s y = some i) (hf : FxOk fx (.nm i)) (b : BlkP X s c tg it ifs scope own g l t W) (hk : ∀ (X' : Cx), X'.K = X.K → CxOk X' (s.blk scope) c → EOk X' W0 c kx p) (hv : ∀ (X' : Cx), X'.K = X.K → CxOk X' (s.blk scope) c → EOk X' W0 c vx q) :
    PS X (.Assign [.Name y py] (.DictComp kx vx [⟨tg, it, ifs, 0⟩] scope pos) spos) (RS X W c fx (.set (.nm i) (.dc (own.map (·.2)) g l t p q))) := by
  obtain ⟨q1, q2, q3⟩ := storeOf_ok k hi
  have hb : ∃ b, swapsWith (.DictComp kx vx [⟨tg, it, ifs, 0⟩] scope pos) (some (.Name y py)) spos.line X.env = pure b ∧ (b = true → X.env.scope.names.lookup y = some .local) := ⟨_, rfl, fun h => by
    simp only [Bool.and_eq_true] at h
    exact eq_of_beq h.1.1.2⟩
  obtain ⟨bb, hb, hl⟩ := hb
  cases bb with
  | false => exact (ps_set k.nd q1 q2 (eo_dc k b hk hv).val hb q3).imp fun D σ H h => rs_asg hf h
  | true => exact (ps_setDc (tt := tsR X W0 c t) (tk := RE X W0 c p) (tv := RE X W0 c q) k.calm k.nd q1 (hl rfl) hb b.wlk (blk_ok k b.blk) (fun sh H C cl fp => pg_tg (k.blk sh H scope cl C fp) b.tgk)
      (fun sh H C cl fp => b.ts (X.blk sh H scope (compEnvC scope cl C X.env) fp) rfl (k.blk sh H scope cl C fp)) (fun sh H C cl fp => (hk (X.blk sh H scope (compEnvC scope cl C X.env) fp) rfl (k.blk sh H scope cl C fp)).val)
      (fun sh H C cl fp => (hv (X.blk sh H scope (compEnvC scope cl C X.env) fp) rfl (k.blk sh H scope cl C fp)).val) (fold_no b.nset _)).imp fun D σ H h => re_dc b.nd b.sub (rs_asg hf h)
end
end DE
/-! # DeU: sorted by abs -/
namespace DE
open PySem PySem.Spec PyProof.Rows L2

section
variable {X : Cx} {pins : List (Addr × Obj)} {σ : L2.St} {H : Hp} {s : Shared} {h' : Heap}
theorem objThere {P : Program} {w : World} {H : Hp} {h : Heap} {a : Addr} {o : HO} (x : ObjOk P w H h a o) : ∃ u, h.get? a = some u := by
  cases o with
  | lst xs => obtain ⟨_, _, _, _, e⟩ := x; exact ⟨_, e⟩
  | tup xs => obtain ⟨_, _, _, ⟨_, e, _⟩⟩ := x; exact ⟨_, e⟩
  | dK kvs => obtain ⟨_, _, _, _, o, _, _, e, _⟩ := x; exact ⟨_, e⟩
  | dT kvs => obtain ⟨_, _, _, _, o, _, _, e, _⟩ := x; exact ⟨_, e⟩
  | set S n => obtain ⟨o, _, _, _, e, _⟩ := x; exact ⟨_, e⟩
  | ins C dx fs => obtain ⟨_, _, _, e, _⟩ := x; exact ⟨_, e⟩
  | own y => obtain ⟨_, e⟩ := x; exact ⟨_, e⟩
  | xd fs => obtain ⟨_, ⟨_, _, _, e, _⟩, _⟩ := x; exact ⟨_, e⟩
  | rng lo hi => obtain ⟨_, _, _, e⟩ := x; exact ⟨_, e⟩
  | frz ob u => obtain ⟨e, _⟩ := x; exact ⟨_, e⟩
  | tbl ps => exact ⟨_, (show h.get? a = some _ from x)⟩
  | met f y => exact ⟨_, (show h.get? a = some _ from x)⟩
  | ext φ => obtain ⟨_, e, _⟩ := x; exact e
/-- a new thing is laid where all else but the frame is kept -/
theorem invLay {D : Addr} {o : HO} {t' : Nat} (I : Inv X pins σ H s) (k : ∀ b u, b ≠ X.env.locals → s.heap.get? b = some u → h'.get? b = some u) (ns : ∀ m, s.heap.Ns X.env.locals m → h'.Ns X.env.locals m)
    (hD : s.heap.get? D = none) (new : ObjOk X.prog X.w (upd H D o) h' D o) : Inv X pins σ (upd H D o) { s with heap := h', toks := t' } := by
  have hn : H D = none := by
    cases q : H D with
    | none => rfl
    | some u => obtain ⟨v, e⟩ := objThere (I.hok D u q); rw [hD] at e; cases e
  have ne : ∀ b u, s.heap.get? b = some u → b ≠ D := fun b u e z => by rw [z, hD] at e; cases e
  have neH : ∀ b u, H b = some u → b ≠ D := fun b u e z => by rw [z, hn] at e; cases e
  have nL : ∀ b u, H b = some u → b ≠ X.env.locals := fun b u e z => by rw [z, I.free] at e; cases e
  refine I.step (g' := s.gens) (d' := s.drawn) (ch := []) (fun _ z => nomatch z) (fun b u h1 _ _ e _ => k b u h1 e) (fun b u h1 _ _ e _ => ⟨u.slots, k b u h1 e⟩) (fun b u _ e n => by rw [upd_ne (ne b u e)]; exact n)
    (fun b u _ e => ?_) (fun b xs e => by rw [upd_ne (neH b _ e)]; exact e) (fun b p u e => by rw [upd_ne (neH b _ e)]; exact e) (fun b ps e => ⟨#[], by rw [upd_ne (neH b _ e), e]; simp⟩) ns (fun b u e => ?_) I.bare
  · by_cases z : b = X.env.locals
    · obtain ⟨m, hm, _⟩ := I.loc
      obtain ⟨oL, _, _, e2, _⟩ := ns m hm
      exact ⟨oL, by rw [z]; exact e2⟩
    · exact ⟨u, k b u z e⟩
  · by_cases hb : b = D
    · subst hb; rw [upd_same] at e; cases e; exact new
    · rw [upd_ne hb] at e
      refine (I.hok b u e).stay (fun c v hc q => k c v ?_ q) (fun c q => by rw [upd_ne (neH c _ q)]; exact q) fun c xs q => by rw [upd_ne (neH c _ q)]; exact q
      rcases hc with z | z
      · rw [z]; exact nL b u e
      · exact nL c _ z
def absI (i : Int) : Int := if i < 0 then -i else i
/-- sorted(l, key=abs) -/
theorem sortAbs_run {a : Addr} {ns : List Int} {Q : VK} (I : Inv X pins σ H s) (hs : SqL X.K H a (ns.map V.int))
    (q : ∀ (ns' : List Int) (p : Addr), ns'.Perm ns → ns'.Pairwise (fun x y => absI x ≤ absI y) → (∀ z, ns'.filter (fun x => absI x == z) = ns.filter (fun x => absI x == z)) → H p = none → Q (.ref p) (upd H p (.lst (ns'.map V.int)))) :
    wpAny (model X.prog X.w) X.A (call (.builtin "sorted") [.ref a] [(Str.ofString "key", .builtin "abs")]) (EP X pins σ Q) X.xe s := by
  obtain ⟨its, rv, hl, hz⟩ := I.list hs
  have hi := rv.ints
  obtain ⟨m, F⟩ := I.fr
  refine ksk_letterSt (b := false) absI F (news_all (g := X.base) (h := s.heap) (L := X.env.locals)) hl.isList hi (by rw [List.length_map] at hz; exact hz) (ksk_s1 _ _) (fun x => ksk_l1 _ _) (fun x => ksk_t4 "abs" x)
    (fun n t h tk own _ F1 N1 => call_abs_int fun u tk => KskEnd.intro F1 N1 fun p hp => hp) fun D vs' ns' c h' tk F' N' hD k1 k2 k3 k4 _ k5 => ?_
  have nD := N' _ List.mem_cons_self
  have hk : ∀ b u, b ≠ X.env.locals → s.heap.get? b = some u → h'.get? b = some u := fun b u hb e => by
    cases r : X.base.get? b with
    | some o =>
      have e2 := I.bk b o r
      rw [e] at e2
      cases e2
      exact F'.keep b u r
    | none => exact (N' (b, u) (List.mem_cons_of_mem _ (mem_allNews hb r e))).1
  have hDn : s.heap.get? D = none := by
    cases r : s.heap.get? D with
    | none => rfl
    | some o => exact absurd (hD (D, o) (mem_allNews nD.2.1 nD.2.2 r)) (Nat.lt_irrefl _)
  have hz' : (ns'.map V.int).length ≤ sizeLine := by rw [List.length_map] at hz ⊢; rw [k2]; exact hz
  have hn : H D = none := by
    cases q : H D with
    | none => rfl
    | some u => obtain ⟨v, e⟩ := objThere (I.hok D u q); rw [hDn] at e; cases e
  exact ⟨.ref D, _, invLay (o := .lst (ns'.map V.int)) I hk (fun m' hm => by rw [SlX.ns_only hm F.ns]; exact F'.ns) hDn ⟨hz', vs', c, vals_of_ints k1, nD.1⟩, rfl, q ns' D k3 (by simpa using k4) k5 hn⟩
end
section
variable {X : Cx} {W : WishX} {c : Ctx} {a : Expr} {p : PX} {p0 p1 pos : Pos} {kp : Pos}
def sortAbsP (K : PySem.W.Frag) (Q : VK) (x : V) (H1 : Hp) : Prop := ∃ (l : Addr) (ns : List Int), x = .ref l ∧ SqL K H1 l (ns.map V.int) ∧
  ∀ (ns' : List Int) (p : Addr), ns'.Perm ns → ns'.Pairwise (fun x y => absI x ≤ absI y) → (∀ z, ns'.filter (fun x => absI x == z) = ns.filter (fun x => absI x == z)) → H1 p = none → Q (.ref p) (upd H1 p (.lst (ns'.map V.int)))
def tSortAbs (K : PySem.W.Frag) (ta : TE) : TE := fun σ H Q => ta σ H (sortAbsP K Q)
theorem pe_sortAbs {ta : TE} (ha : PE X a ta) (hg : Gl X "sorted") (hm : X.mg "sorted" = none) (hg2 : Gl X "abs") (hm2 : X.mg "abs" = none) (hs : isStar a = false) :
    PE X (.Call (.Name "sorted" p0) [a] [⟨some "key", .Name "abs" p1, kp⟩] pos) (tSortAbs X.K ta) := by
  refine ⟨fun pins s σ H Q I h => ?_⟩
  refine wpAny_Call_Name_kw (ld_blt I hg hm rfl ?_)
  have h : tCons ta tNil σ H (fun vs H1 => match vs with | [x] => sortAbsP X.K Q x H1 | _ => False) := h
  refine PyProof.Rows.callWith_kw (thn ((pa_cons ha pa_nil (starEach_cons hs _)).run pos pins s σ H _ I h) fun us s1 ⟨vs, H1, I1, r1, q1⟩ => ?_) (show backTo pos (starEach [a] X.env) = (false, eval a X.env) :: backTo pos (starEach [] X.env) by rw [starEach_cons hs]; rfl) (by rw [starEach_cons hs]; rfl) rfl rfl
  show wpAny _ _ (evalAll [(do let v ← eval (.Name "abs" p1) X.env; standAt pos; pure v)]) _ _ s1
  refine wpAny_evalAll_cons (wpAny_bind (ld_blt I1 hg2 hm2 rfl (wpAny_bind (wpAny_standAt (wpAny_pure ?_)))))
  refine wpAny_evalAll_nil ?_
  match vs, r1, q1 with
  | [x], r1, q1 =>
    obtain ⟨l, ns, e, hq, q⟩ := q1
    subst e
    obtain rfl := Vals.ref1 r1
    exact sortAbs_run I1 hq q
end

/-! ### the one stable arrangement -/
theorem insBy_filter (f : Int → Int) (x z : Int) : ∀ l : List Int, l.Pairwise (fun a b => f a ≤ f b) → (insBy f x l).filter (fun a => f a == z) = (x :: l).filter (fun a => f a == z)
  | [], _ => rfl
  | y :: r, h => by
    unfold insBy
    split
    · rfl
    · rename_i hn
      obtain ⟨h1, h2⟩ := List.pairwise_cons.mp h
      rw [List.filter_cons, insBy_filter f x z r h2]
      simp only [List.filter_cons]
      by_cases hx : f x == z
      · have hy : (f y == z) = false := by
          rw [beq_eq_false_iff_ne]
          intro e
          have := eq_of_beq hx
          omega
        simp [hx, hy]
      · simp [hx]
theorem insBy_mem (f : Int → Int) (x : Int) : ∀ (l : List Int) (a : Int), a ∈ insBy f x l → a = x ∨ a ∈ l
  | [], a, h => by simpa [insBy] using h
  | y :: r, a, h => by
    unfold insBy at h
    split at h
    · simpa using h
    · rcases List.mem_cons.mp h with e | e
      · exact .inr (by simp [e])
      · rcases insBy_mem f x r a e with e | e
        · exact .inl e
        · exact .inr (by simp [e])
theorem insBy_sorted (f : Int → Int) (x : Int) : ∀ l : List Int, l.Pairwise (fun a b => f a ≤ f b) → (insBy f x l).Pairwise (fun a b => f a ≤ f b)
  | [], _ => by simp [insBy]
  | y :: r, h => by
    obtain ⟨h1, h2⟩ := List.pairwise_cons.mp h
    unfold insBy
    split
    · rename_i hn
      exact List.pairwise_cons.mpr ⟨fun a ha => by
        rcases List.mem_cons.mp ha with e | e
        · rw [e]; exact hn
        · have := h1 a e; omega, h⟩
    · rename_i hn
      exact List.pairwise_cons.mpr ⟨fun a ha => by
        rcases insBy_mem f x r a ha with e | e
        · rw [e]; omega
        · exact h1 a e, insBy_sorted f x r h2⟩
theorem isortBy_sorted (f : Int → Int) : ∀ l : List Int, (isortBy f l).Pairwise (fun a b => f a ≤ f b)
  | [] => .nil
  | x :: r => insBy_sorted f x _ (isortBy_sorted f r)
theorem isortBy_filter (f : Int → Int) (z : Int) : ∀ l : List Int, (isortBy f l).filter (fun a => f a == z) = l.filter (fun a => f a == z)
  | [] => rfl
  | x :: r => by
    show (insBy f x (isortBy f r)).filter _ = _
    rw [insBy_filter f x z _ (isortBy_sorted f r), List.filter_cons, List.filter_cons, isortBy_filter f z r]
theorem stable_uniq (f : Int → Int) : ∀ {l m : List Int}, l.Pairwise (fun a b => f a ≤ f b) → m.Pairwise (fun a b => f a ≤ f b) → (∀ z, l.filter (fun a => f a == z) = m.filter (fun a => f a == z)) → l = m
  | [], [], _, _, _ => rfl
  | [], y :: m, _, _, h => by have := h (f y); simp at this
  | x :: l, [], _, _, h => by have := h (f x); simp at this
  | x :: l, y :: m, h1, h2, h => by
    obtain ⟨a1, a2⟩ := List.pairwise_cons.mp h1
    obtain ⟨b1, b2⟩ := List.pairwise_cons.mp h2
    have mx : x ∈ y :: m := by
      have : x ∈ (x :: l).filter (fun a => f a == f x) := by simp
      rw [h (f x)] at this
      exact (List.mem_filter.mp this).1
    have my : y ∈ x :: l := by
      have : y ∈ (y :: m).filter (fun a => f a == f y) := by simp
      rw [← h (f y)] at this
      exact (List.mem_filter.mp this).1
    have e : f x = f y := by
      have q1 : f y ≤ f x := by
        rcases List.mem_cons.mp mx with e | e
        · rw [e]; exact Int.le_refl _
        · exact b1 x e
      have q2 : f x ≤ f y := by
        rcases List.mem_cons.mp my with e | e
        · rw [e]; exact Int.le_refl _
        · exact a1 y e
      omega
    have hz := h (f x)
    rw [List.filter_cons_of_pos (by simp), List.filter_cons_of_pos (by simp [e])] at hz
    have exy : x = y := (List.cons.inj hz).1
    subst exy
    rw [stable_uniq f a2 b2 fun z => ?_]
    have hz := h z
    rw [List.filter_cons, List.filter_cons] at hz
    split at hz
    · exact (List.cons.inj hz).2
    · exact hz
theorem ints_of : ∀ {ds : List D} {ns : List Int}, intsOf ds = some ns → ds = ns.map .int
  | [], ns, h => by cases h; rfl
  | d :: ds, ns, h => by
    cases d with
    | int i =>
      have h : (intsOf ds).map (i :: ·) = some ns := h
      cases q : intsOf ds with
      | none => rw [q] at h; cases h
      | some r => rw [q] at h; cases h; rw [ints_of q]; rfl
    | _ => cases h
section
variable {X : Cx} {W : WishX} {c : Ctx} {a : Expr} {p : PX} {p0 p1 pos : Pos} {kp : Pos}
theorem eo_sortK (hg : Gl X "sorted") (hm : X.mg "sorted" = none) (hg2 : Gl X "abs") (hm2 : X.mg "abs" = none) (hs : isStar a = false) (ha : EOk X W c a p) :
    EOk X W c (.Call (.Name "sorted" p0) [a] [⟨some "key", .Name "abs" p1, kp⟩] pos) (.sortK p "abs") := by
  refine .of (fun _ z => nomatch z) ((pe_sortAbs ha.opd hg hm hg2 hm2 hs).imp fun σ H Q h => rd_one (rel := rD X.K) h fun o v x ρ H I F G1 cu pp => ?_)
  obtain ⟨d, e, G, r1, l1, h, af⟩ := cu.op1 (x := ⟨v, x, G1⟩) (by simp) pp
  unfold sortKD at h
  split at h
  · rename_i o' xs
    rw [if_pos rfl] at h
    cases q : intsOf xs with
    | none => rw [q] at h; cases h
    | some ns =>
      rw [q] at h
      cases h
      have exs := ints_of q
      subst exs
      obtain ⟨l, vs, G', e1, hh, hz, rr, hG'⟩ := r1.lstR
      have ev : vs = ns.map V.int := by
        clear q af r1 hh hz hG'
        induction ns generalizing vs G' with
        | nil => cases rr; rfl
        | cons n ns ih =>
          cases rr with
          | cons r t hF =>
            cases r
            rw [ih _ _ t]
            rfl
      subst ev
      refine ⟨l, ns, e1, SqL.of hh, fun ns' p hp hs hf hn => ?_⟩
      have e3 : ns' = isortBy absI ns := stable_uniq absI hs (isortBy_sorted _ _) fun z => by rw [hf z, isortBy_filter]
      have hz2 : (ns'.map V.int).length ≤ sizeLine := by rw [List.length_map, hp.length_eq]; rw [List.length_map] at hz; exact hz
      have := af.lst cu.good hz2 (vs := ns'.map V.int) (by rw [e3]; exact reps_ints _) p hn
      exact this
  · cases h
end
end DE
/-! # DeV: what the translation says is so: expressions -/
namespace DE
open PySem PySem.Spec PyProof.Rows L2

section
variable {X : Cx} {s : Scp} {W : WishX} {c : Ctx}
theorem exprs_ok {f : Expr → Option PX} (hf : ∀ e p, f e = some p → EOk X W c e p) : ∀ {es : List Expr} {ps : PXs}, exprs f es = some ps → PA X es (RAs X W c ps) ∧ es.any isStar = false ∧ ps.len = es.length ∧ (es = [] → ps = .nil)
  | [], ps, h => by cases h; exact ⟨as_nil, rfl, rfl, fun _ => rfl⟩
  | e :: r, ps, h => by
    unfold exprs at h
    split at h
    · cases h
    · rename_i hs
      split at h
      · rename_i p q e1 e2
        cases h
        obtain ⟨h1, h2, h3, _⟩ := exprs_ok hf e2
        have hs : isStar e = false := by simpa using hs
        exact ⟨as_cons hs (hf e p e1) h1, by rw [List.any_cons, hs, h2]; rfl, congrArg (· + 1) h3, fun z => nomatch z⟩
      · cases h
theorem kwExprs_ok {f : Expr → Option PX} (hf : ∀ e p, f e = some p → EOk X W c e p) : ∀ {kws : List Keyword} {ks : List Str} {ps : PXs}, kwExprs f kws = some ps → kwNames kws = some ks → PK X kws (RAs X W c ps) ∧ ps.len = ks.length
  | [], ks, ps, h, hk => by cases h; cases hk; exact ⟨ks_nil, rfl⟩
  | ⟨none, e, kp⟩ :: r, ks, ps, h, hk => by cases hk
  | ⟨some k, e, kp⟩ :: r, ks, ps, h, hk => by
    unfold kwExprs at h
    have hk : (kwNames r).map (k :: ·) = some ks := hk
    cases q : kwNames r with
    | none => rw [q] at hk; cases hk
    | some r' =>
      rw [q] at hk
      cases hk
      split at h
      · rename_i p1 p2 e1 e2
        cases h
        obtain ⟨h1, h2⟩ := kwExprs_ok hf e2 q
        exact ⟨ks_cons (hf e p1 e1) h1, congrArg (· + 1) h2⟩
      · cases h
theorem biOk_ok (hc : X.calm = true) {f : Str} {n : Nat} {g : String} (h : biOk f n = some g) : n ≠ 0 ∧ f ∈ bltNames ∧ ((bootBuiltins f = some (.builtin g) ∧ CallR X (.builtin g) (rBi X.K g)) ∨ (bootBuiltins f = some (.type g) ∧ CallR X (.type g) (rBi X.K g))) := by
  have key : ∀ t ∈ biTab, (∀ n, t.2.2.contains n = true → n ≠ 0) ∧ t.1 ∈ bltNames ∧ ((bootBuiltins t.1 = some (.builtin t.2.1) ∧ CallR X (.builtin t.2.1) (rBi X.K t.2.1)) ∨ (bootBuiltins t.1 = some (.type t.2.1) ∧ CallR X (.type t.2.1) (rBi X.K t.2.1))) := by
    intro t ht
    have z : ∀ l : List Nat, l.contains 0 = false → ∀ n, l.contains n = true → n ≠ 0 := fun l h0 n hn e => by rw [e, h0] at hn; cases hn
    unfold biTab at ht
    rcases List.mem_cons.mp ht with e | ht
    · subst e; exact ⟨z _ rfl, by decide, .inl ⟨rfl, bi_len⟩⟩
    rcases List.mem_cons.mp ht with e | ht
    · subst e; exact ⟨z _ rfl, by decide, .inl ⟨rfl, bi_abs⟩⟩
    rcases List.mem_cons.mp ht with e | ht
    · subst e; exact ⟨z _ rfl, by decide, .inr ⟨rfl, bi_int⟩⟩
    rcases List.mem_cons.mp ht with e | ht
    · subst e; exact ⟨z _ rfl, by decide, .inl ⟨rfl, bi_max hc⟩⟩
    rcases List.mem_cons.mp ht with e | ht
    · subst e; exact ⟨z _ rfl, by decide, .inl ⟨rfl, bi_min hc⟩⟩
    rcases List.mem_cons.mp ht with e | ht
    · subst e; exact ⟨z _ rfl, by decide, .inl ⟨rfl, bi_sum hc⟩⟩
    rcases List.mem_cons.mp ht with e | ht
    · subst e; exact ⟨z _ rfl, by decide, .inl ⟨rfl, bi_all hc⟩⟩
    rcases List.mem_cons.mp ht with e | ht
    · subst e; exact ⟨z _ rfl, by decide, .inl ⟨rfl, bi_any hc⟩⟩
    rcases List.mem_cons.mp ht with e | ht
    · subst e; exact ⟨z _ rfl, by decide, .inr ⟨rfl, bi_list⟩⟩
    rcases List.mem_cons.mp ht with e | ht
    · subst e; exact ⟨z _ rfl, by decide, .inr ⟨rfl, bi_tuple⟩⟩
    rcases List.mem_cons.mp ht with e | ht
    · subst e; exact ⟨z _ rfl, by decide, .inl ⟨rfl, bi_sorted hc⟩⟩
    cases ht
  unfold biOk at h
  cases e : biTab.find? fun t => decide (t.1 = f) && t.2.2.contains n with
  | none => rw [e] at h; cases h
  | some t =>
    rw [e] at h
    cases h
    have hm := List.mem_of_find?_eq_some e
    have hp := List.find?_some e
    simp only [Bool.and_eq_true, decide_eq_true_eq] at hp
    obtain ⟨k1, k2, k3⟩ := key t hm
    rw [← hp.1]
    exact ⟨k1 n hp.2, k2, k3⟩
theorem eo_bi1 (k : CxOk X s c) {f : Str} {g : String} {es : List Expr} {ps : PXs} {p0 pos : Pos} (hb : biOk f es.length = some g) (hg : isGl s f = true) (h : PA X es (RAs X W c ps)) (hs : es.any isStar = false) : EOk X W c (.Call (.Name f p0) es [] pos) (.bi g ps) := by
  obtain ⟨g1, g2, g3⟩ := isGl_ok k hg
  obtain ⟨h0, hf, hc⟩ := biOk_ok k.calm hb
  cases es with
  | nil => exact absurd rfl h0
  | cons e r =>
    rw [List.any_cons, Bool.or_eq_false_iff] at hs
    rcases hc with ⟨hv, hc⟩ | ⟨hv, hc⟩
    · exact eo_biB hc g1 (k.blt _ hf) hv g3 g2 hs.1 h hs.2
    · exact eo_biT hc g1 (k.blt _ hf) hv g3 g2 hs.1 h hs.2
theorem tyOk_ok (k : CxOk X s c) {e : Expr} {t : String} (h : tyOk s e = some t) : ∃ y p, e = .Name y p ∧ Gl X y ∧ X.mg y = none ∧ bootBuiltins y = some (.type t) ∧ y ≠ "__name__" ∧ (y == ("__debug__" : Str)) = false := by
  have key : ∀ t ∈ tyTab, t.1 ∈ bltNames ∧ bootBuiltins t.1 = some (.type t.2) := by
    intro t ht
    unfold tyTab at ht
    rcases List.mem_cons.mp ht with e | ht
    · subst e; exact ⟨by decide, rfl⟩
    rcases List.mem_cons.mp ht with e | ht
    · subst e; exact ⟨by decide, rfl⟩
    rcases List.mem_cons.mp ht with e | ht
    · subst e; exact ⟨by decide, rfl⟩
    rcases List.mem_cons.mp ht with e | ht
    · subst e; exact ⟨by decide, rfl⟩
    rcases List.mem_cons.mp ht with e | ht
    · subst e; exact ⟨by decide, rfl⟩
    rcases List.mem_cons.mp ht with e | ht
    · subst e; exact ⟨by decide, rfl⟩
    cases ht
  cases e with
  | Name y p =>
    unfold tyOk at h
    dsimp only at h
    split at h
    · rename_i hg
      obtain ⟨g1, g2, g3⟩ := isGl_ok k hg
      cases e : tyTab.find? fun t => decide (t.1 = y) with
      | none => rw [e] at h; cases h
      | some z =>
        rw [e] at h
        cases h
        have hp := List.find?_some e
        simp only [decide_eq_true_eq] at hp
        obtain ⟨k1, k2⟩ := key z (List.mem_of_find?_eq_some e)
        rw [hp] at k1 k2
        exact ⟨y, p, rfl, g1, k.blt _ k1, k2, g3, g2⟩
    · cases h
  | _ => cases h
/-- what is known at a depth -/
structure IH (n : Nat) : Prop where
  E : ∀ {X : Cx} {s : Scp} {W : WishX} {c : Ctx} {e : Expr} {p : PX}, CxOk X s c → trE s n e = some p → EOk X W c e p
  O : ∀ {X : Cx} {s : Scp} {W : WishX} {c : Ctx} {e : Option Expr} {p : QO}, CxOk X s c → trO s n e = some p → L2.PO X e (RQ X W c p)
  T : ∀ {X : Cx} {s : Scp} {W : WishX} {c : Ctx} {e : Expr} {p : QT}, CxOk X s c → trT s n e = some p → L2.PT X e (RT X W c p)
  B : ∀ {X : Cx} {s : Scp} {W : WishX} {c : Ctx} {op : BoolOp} {es : List Expr} {pos : Pos} {p : QT}, CxOk X s c → trT s n (.BoolOp op es pos) = some p → PW X (.BoolOp op es pos) (RT X W c p)
  L : ∀ {X : Cx} {s : Scp} {W : WishX} {c : Ctx} {tg e : Expr} {p : QL}, CxOk X s c → trL s n tg e = some p → PI X tg e (RI X W c p) ∧ isSetD e = false
end
end DE
set_option maxHeartbeats 1000000
/-! # DeW: what the translation says is so: the induction -/
namespace DE
open PySem PySem.Spec PyProof.Rows L2

theorem map_some {α β : Type} {f : α → β} {x : Option α} {y : β} (h : x.map f = some y) : ∃ a, x = some a ∧ f a = y := by
  cases x with
  | none => cases h
  | some a => exact ⟨a, rfl, Option.some.inj h⟩
section
variable {n : Nat} {X : Cx} {s : Scp} {W : WishX} {c : Ctx} {e a b : Expr} {p : PX} {pos : Pos}
theorem e_const {cc : Const} {j : Nat} (h : trE s (n + 1) (.Constant cc j pos) = some p) : EOk X W c (.Constant cc j pos) p := by
  unfold trE at h
  obtain ⟨d, hd, rfl⟩ := map_some h
  cases cc with
  | none => cases hd; exact eo_cst pe_non fun _ _ => .non fun _ => rfl
  | bool x => cases hd; exact eo_cst pe_bl fun _ _ => .bl x fun _ => rfl
  | int x => cases hd; exact eo_cst pe_int fun _ _ => .int x fun _ => rfl
  | str x => cases hd; exact eo_cst pe_str fun _ _ => .str x fun _ => rfl
  | _ => cases hd
theorem bad_names {x : Str} (h : badName x = false) : (x == ("__debug__" : Str)) = false ∧ (x == ("__classdict__" : Str)) = false := by
  unfold badName at h
  rw [Bool.or_eq_false_iff, Bool.or_eq_false_iff] at h
  exact h.1
theorem pv_ok (k : CxOk X s c) {x : Str} {i : Nat} (h : slotOf s x = some i) : PE X (.Name x pos) (tVar i) := by
  obtain ⟨h1, h2, h3⟩ := slotOf_ok k h
  exact pe_var h1 h2 (bad_names h3).1 (bad_names h3).2
theorem e_name (k : CxOk X s c) {x : Str} (h : trE s (n + 1) (.Name x pos) = some p) : EOk X W c (.Name x pos) p := by
  unfold trE at h
  obtain ⟨i, hi, rfl⟩ := map_some h
  exact eo_var (pv_ok k hi)
theorem cmpOk_marks {op : CmpOp} (h : isSetD b = false) : behindInMarks op b = false := by
  cases b <;> first | rfl | cases h
theorem noneE_ok (h : noneE b = true) : ∃ j p0, b = .Constant .none j p0 := by
  cases b with
  | Constant cc j p0 =>
    cases cc with
    | none => exact ⟨j, p0, rfl⟩
    | _ => cases h
  | _ => cases h
theorem minusOne_ok (h : minusOne b = true) : ∃ k p1 p2, b = .UnaryOp .USub (.Constant (.int 1) k p1) p2 := by
  unfold minusOne at h
  split at h
  · exact ⟨_, _, _, rfl⟩
  · cases h
theorem e_cmp (ih : ∀ m, m ≤ n → IH m) (k : CxOk X s c) {ops : List CmpOp} {bs : List Expr} (h : trE s (n + 1) (.Compare a ops bs pos) = some p) : EOk X W c (.Compare a ops bs pos) p ∧ L2.PT X (.Compare a ops bs pos) (RT X W c (.tru p)) := by
  have iE := @(ih n (Nat.le_refl n)).E
  match ops, bs, h with
  | [], _, h => unfold trE at h; cases h
  | [op], [], h => cases op <;> (unfold trE at h; cases h)
  | [op], _ :: _ :: _, h => cases op <;> (unfold trE at h; cases h)
  | [x, _], [], h => cases x <;> (unfold trE at h; cases h)
  | [x, _], [_], h => cases x <;> (unfold trE at h; cases h)
  | [x, _], _ :: _ :: _ :: _, h => cases x <;> (unfold trE at h; cases h)
  | x :: _ :: _ :: _, bs, h => cases x <;> cases bs <;> (unfold trE at h; cases h)
  | [o1, o2], [b, d], h =>
    have h : (if cmpOk o1 && cmpOk o2 && !isSetD b && !isSetD d then (match trE s n a, trE s n b, trE s n d with
      | some p, some q, some r => some (PX.chn o1 o2 p q r)
      | _, _, _ => none) else none) = some p := by cases o1 <;> (unfold trE at h; exact h)
    split at h
    · rename_i hc
      simp only [Bool.and_eq_true, Bool.not_eq_true'] at hc
      split at h
      · rename_i q1 q2 q3 e1 e2 e3
        cases h
        have hm : lastMarks [o1, o2] [b, d] = false := cmpOk_marks hc.2
        exact ⟨eo_chn k.hu (iE k e1) (iE k e2) (iE k e3) hm, ot_chn k.hu (iE k e1) (iE k e2) (iE k e3) hm⟩
      · cases h
    · cases h
  | [op], [b], h =>
    cases op with
    | Is =>
      unfold trE at h
      split at h
      · rename_i hb
        obtain ⟨q, e1, rfl⟩ := map_some h
        obtain ⟨j, p0, rfl⟩ := noneE_ok hb
        exact ⟨eo_isN (iE k e1), ot_isN (iE k e1)⟩
      · cases h
    | IsNot =>
      unfold trE at h
      split at h
      · rename_i hb
        obtain ⟨q, e1, rfl⟩ := map_some h
        obtain ⟨j, p0, rfl⟩ := noneE_ok hb
        exact ⟨eo_notN (iE k e1), ot_notN (iE k e1)⟩
      · cases h
    | _ =>
      unfold trE at h
      split at h
      · rename_i hc
        simp only [Bool.and_eq_true, Bool.not_eq_true'] at hc
        split at h
        · rename_i q1 q2 e1 e2
          cases h
          exact ⟨eo_cmp k.hu (iE k e1) (iE k e2) (cmpOk_marks hc.2), ot_cmp k.hu (iE k e1) (iE k e2) (cmpOk_marks hc.2)⟩
        · cases h
      · cases h
theorem e_tup (ih : ∀ m, m ≤ n → IH m) (k : CxOk X s c) {es : List Expr} {j : Nat} (h : trE s (n + 1) (.Tuple es j pos) = some p) : EOk X W c (.Tuple es j pos) p := by
  unfold trE at h
  obtain ⟨q, e1, rfl⟩ := map_some h
  exact eo_tup (exprs_ok (fun e p h => (ih n (Nat.le_refl n)).E k h) e1).1
theorem e_lst (ih : ∀ m, m ≤ n → IH m) (k : CxOk X s c) {es : List Expr} (h : trE s (n + 1) (.List es pos) = some p) : EOk X W c (.List es pos) p := by
  unfold trE at h
  obtain ⟨q, e1, rfl⟩ := map_some h
  exact eo_lst (exprs_ok (fun e p h => (ih n (Nat.le_refl n)).E k h) e1).1
theorem e_dict (k : CxOk X s c) {ks : List (Option Expr)} {vs : List Expr} (h : trE s (n + 1) (.Dict ks vs pos) = some p) : EOk X W c (.Dict ks vs pos) p := by
  unfold trE at h
  split at h
  · rename_i hc
    rw [Bool.and_eq_true, List.isEmpty_iff, List.isEmpty_iff] at hc
    obtain ⟨rfl, rfl⟩ := hc
    cases h
    exact eo_dic0
  · cases h
theorem e_bin (ih : ∀ m, m ≤ n → IH m) (k : CxOk X s c) {op : Operator} (h : trE s (n + 1) (.BinOp a op b pos) = some p) : EOk X W c (.BinOp a op b pos) p := by
  have iE := @(ih n (Nat.le_refl n)).E
  unfold trE at h
  split at h
  · split at h
    · rename_i q1 q2 e1 e2
      cases h
      exact eo_bin (iE k e1) (iE k e2)
    · cases h
  · cases h
theorem e_un (ih : ∀ m, m ≤ n → IH m) (k : CxOk X s c) {op : UnaryOp} (h : trE s (n + 1) (.UnaryOp op a pos) = some p) : EOk X W c (.UnaryOp op a pos) p := by
  have iE := @(ih n (Nat.le_refl n)).E
  cases op with
  | USub =>
    unfold trE at h
    obtain ⟨q, e1, rfl⟩ := map_some h
    exact eo_neg (iE k e1)
  | Not =>
    unfold trE at h
    obtain ⟨q, e1, rfl⟩ := map_some h
    exact eo_not (iE k e1)
  | _ => unfold trE at h; cases h
theorem e_bool (ih : ∀ m, m ≤ n → IH m) (k : CxOk X s c) {op : BoolOp} {es : List Expr} (h : trE s (n + 1) (.BoolOp op es pos) = some p) : EOk X W c (.BoolOp op es pos) p := by
  have iE := @(ih n (Nat.le_refl n)).E
  match op, es, h with
  | op, [], h => cases op <;> (unfold trE at h; cases h)
  | op, [a], h =>
    unfold trE at h
    have q := iE (W := W) k h
    exact ⟨pe_one q.val, pe_one q.opd⟩
  | .And, a :: b :: r, h =>
    unfold trE at h
    split at h
    · rename_i q1 q2 e1 e2
      cases h
      exact eo_and (iE k e1) (iE k e2)
    · cases h
  | .Or, a :: b :: r, h =>
    unfold trE at h
    split at h
    · rename_i q1 q2 e1 e2
      cases h
      exact eo_or (iE k e1) (iE k e2)
    · cases h
theorem e_ife (ih : ∀ m, m ≤ n → IH m) (k : CxOk X s c) {t : Expr} (h : trE s (n + 1) (.IfExp t a b pos) = some p) : EOk X W c (.IfExp t a b pos) p := by
  have iE := @(ih n (Nat.le_refl n)).E
  unfold trE at h
  split at h
  · rename_i q1 q2 q3 e1 e2 e3
    cases h
    
    exact eo_ite ((ih n (Nat.le_refl n)).T k e1) (iE k e2) (iE k e3)
  · cases h
theorem e_sub (ih : ∀ m, m ≤ n → IH m) (k : CxOk X s c) (h : trE s (n + 1) (.Subscript a b pos) = some p) : EOk X W c (.Subscript a b pos) p := by
  have iE := @(ih n (Nat.le_refl n)).E
  have iO := @(ih n (Nat.le_refl n)).O
  by_cases hs : isSlice b = true
  · cases b with
    | Slice lo hi st p2 =>
      cases st with
      | none =>
        unfold trE at h
        split at h
        · rename_i q1 q2 q3 e1 e2 e3
          cases h
          
          exact eo_slc (iE k e1) (iO k e2) (iO k e3)
        · cases h
      | some st =>
        cases lo with
        | none =>
          cases hi with
          | none =>
            unfold trE at h
            split at h
            · rename_i hm
              obtain ⟨q, e1, rfl⟩ := map_some h
              obtain ⟨kk, p1, p3, rfl⟩ := minusOne_ok hm
              exact eo_rev (iE k e1)
            · cases h
          | some _ => unfold trE at h; simp [isSlice] at h
        | some _ => unfold trE at h; simp [isSlice] at h
    | _ => cases hs
  · have hs : isSlice b = false := by simpa using hs
    have h : (match trE s n a, trE s n b with
      | some p, some q => some (PX.sub p q)
      | _, _ => none) = some p := by
      cases b <;> first | (cases hs; done) | (unfold trE at h; exact h)
    split at h
    · rename_i q1 q2 e1 e2
      cases h
      exact eo_sub k.hu (iE k e1) (iE k e2) hs
    · cases h
end
end DE
set_option maxHeartbeats 1000000
/-! # DeX: what the translation says is so: calls, comprehensions, the whole -/
namespace DE
open PySem PySem.Spec PyProof.Rows L2

theorem star_no {s : Scp} : ∀ {n : Nat} {a : Expr} {p : PX}, trE s n a = some p → isStar a = false := by
  intro n a p h
  cases a with
  | Starred _ _ => cases n <;> (unfold trE at h; cases h)
  | _ => rfl
section
variable {n : Nat} {X : Cx} {s : Scp} {W : WishX} {c : Ctx} {e a b : Expr} {p : PX} {pos p0 : Pos}
theorem e_call (ih : ∀ m, m ≤ n → IH m) (k : CxOk X s c) {f : Expr} {es : List Expr} {kws : List Keyword} (h : trE s (n + 1) (.Call f es kws pos) = some p) : EOk X W c (.Call f es kws pos) p := by
  have iE := @(ih n (Nat.le_refl n)).E
  cases f with
  | Name f p0 =>
    unfold trE at h
    split at h
    · cases h
    rename_i hgl
    have hgl : isGl s f = true := by simpa using hgl
    obtain ⟨g1, g2, g3⟩ := isGl_ok k hgl
    split at h
    · rename_i g hsig
      split at h
      · rename_i ks hks
        split at h
        · rename_i hpat
          split at h
          · rename_i perm q1 q2 e1 e2 e3
            split at h
            · rename_i hp
              cases h
              obtain ⟨a1, a2, a3, a4⟩ := exprs_ok (X := X) (W := W) (c := c) (fun e p h => iE k h) e2
              obtain ⟨b1, b2⟩ := kwExprs_ok (X := X) (W := W) (c := c) (fun e p h => iE k h) e3 hks
              have hs2 : c.sig f = some g := by rw [← k.sig]; exact hsig
              exact eo_call g1 g2 hs2 (k.fns f g hs2) a1 b1 a2 hks hpat e1 (List.isPerm_iff.mp hp) a3 b2 a4
            · cases h
          · cases h
        · cases h
      · cases h
    · rename_i hsig
      split at h
      · rename_i a t
        split at h
        · rename_i hf
          subst hf
          split at h
          · rename_i q1 t' e1 e2
            cases h
            obtain ⟨y, p1, rfl, y1, y2, y3, y4, y5⟩ := tyOk_ok k e2
            exact eo_isi (iE k e1) (star_no e1) g1 (k.blt _ (by decide)) rfl g3 g2 y1 y2 y3 y4 y5
          · cases h
        · split at h
          · rename_i g q1 e1 e2
            cases h
            obtain ⟨a1, a2, a3, a4⟩ := exprs_ok (X := X) (W := W) (c := c) (fun e p h => iE k h) e2
            exact eo_bi1 k e1 hgl a1 a2
          · cases h
      · split at h
        · rename_i hc
          obtain ⟨rfl, rfl, rfl, hg2⟩ := hc
          obtain ⟨q, e1, rfl⟩ := map_some h
          exact eo_sortK g1 (k.blt _ (by decide)) (isGl_ok k hg2).1 (k.blt _ (by decide)) (star_no e1) (iE k e1)
        · cases h
      · split at h
        · rename_i g q1 e1 e2
          cases h
          obtain ⟨a1, a2, a3, a4⟩ := exprs_ok (X := X) (W := W) (c := c) (fun e p h => iE k h) e2
          exact eo_bi1 k e1 hgl a1 a2
        · cases h
      · cases h
  | _ => unfold trE at h; cases h
/-- a block's parts -/
theorem blk_of (ih : ∀ m, m ≤ n → IH m) (k : CxOk X s c) {tg it : Expr} {ifs : List Expr} {scope : Scope} {own : List (Str × Nat)} {g : QG} {l : QL} {t : Option QT} (hb : (blkC s.N s.sc scope own && ownOk own) = true) (h1 : tgOf (s.blk scope) tg = some g)
    (h2 : trL s n tg it = some l) (h3 : ¬(!(tgSl g).all (own.map (·.2)).contains) = true) (ht : (ifs = [] ∧ t = none) ∨ ∃ x t', ifs = [x] ∧ t = some t' ∧ trT (s.blk scope) n x = some t') : BlkP X s c tg it ifs scope own g l t W := by
  rw [Bool.and_eq_true] at hb
  obtain ⟨w1, w2⟩ := (ih n (Nat.le_refl n)).L (W := W) k h2
  refine ⟨hb.1, of_decide_eq_true hb.2, h1, fun i hi => ?_, w1, w2, fun X' hX k' => ?_⟩
  · have h3 : (tgSl g).all (own.map (·.2)).contains = true := by simpa using h3
    rw [List.all_eq_true] at h3
    have := h3 i hi
    simpa using this
  · rcases ht with ⟨rfl, rfl⟩ | ⟨x, t', rfl, rfl, e1⟩
    · exact pts_nil
    · exact pts_one ((ih n (Nat.le_refl n)).T k' e1)
theorem lc_parts {elt : Expr} {gs : List Comprehension} {scope : Scope} (h : trE s (n + 1) (.ListComp elt gs scope pos) = some p) : ∃ tg it ifs own g l t q, gs = [⟨tg, it, ifs, 0⟩] ∧ p = .lc (own.map (·.2)) g l t q ∧ (blkC s.N s.sc scope own && ownOk own) = true ∧
    tgOf (s.blk scope) tg = some g ∧ trL s n tg it = some l ∧ (¬(!(tgSl g).all (own.map (·.2)).contains) = true) ∧ ((ifs = [] ∧ t = none) ∨ ∃ x t', ifs = [x] ∧ t = some t' ∧ trT (s.blk scope) n x = some t') ∧ trE (s.blk scope) n elt = some q := by
  unfold trE at h
  split at h
  all_goals (first | (cases h; done) | (rename_i heq; cases heq; done) | skip)
  rename_i h0 heq
  cases h0
  cases heq
  split at h
  · rename_i own how
    split at h
    · rename_i hb
      split at h
      · rename_i g l q e1 e2 e3
        split at h
        · cases h
        · rename_i hsub
          split at h
          · cases h
            exact ⟨_, _, _, own, g, l, none, q, rfl, rfl, hb, e1, e2, hsub, .inl ⟨rfl, rfl⟩, e3⟩
          · obtain ⟨t, et, rfl⟩ := map_some h
            exact ⟨_, _, _, own, g, l, some t, q, rfl, rfl, hb, e1, e2, hsub, .inr ⟨_, t, rfl, rfl, et⟩, e3⟩
          · cases h
      · cases h
    · cases h
  · cases h
theorem dc_parts {kx vx : Expr} {gs : List Comprehension} {scope : Scope} (h : trE s (n + 1) (.DictComp kx vx gs scope pos) = some p) : ∃ tg it ifs own g l t q r, gs = [⟨tg, it, ifs, 0⟩] ∧ p = .dc (own.map (·.2)) g l t q r ∧ (blkC s.N s.sc scope own && ownOk own) = true ∧
    tgOf (s.blk scope) tg = some g ∧ trL s n tg it = some l ∧ (¬(!(tgSl g).all (own.map (·.2)).contains) = true) ∧ ((ifs = [] ∧ t = none) ∨ ∃ x t', ifs = [x] ∧ t = some t' ∧ trT (s.blk scope) n x = some t') ∧ trE (s.blk scope) n kx = some q ∧ trE (s.blk scope) n vx = some r := by
  unfold trE at h
  split at h
  all_goals (first | (cases h; done) | (rename_i heq; cases heq; done) | skip)
  rename_i h0 heq
  cases h0
  cases heq
  split at h
  · rename_i own how
    split at h
    · rename_i hb
      split at h
      · rename_i g l q r e1 e2 e3 e4
        split at h
        · cases h
        · rename_i hsub
          split at h
          · cases h
            exact ⟨_, _, _, own, g, l, none, q, r, rfl, rfl, hb, e1, e2, hsub, .inl ⟨rfl, rfl⟩, e3, e4⟩
          · obtain ⟨t, et, rfl⟩ := map_some h
            exact ⟨_, _, _, own, g, l, some t, q, r, rfl, rfl, hb, e1, e2, hsub, .inr ⟨_, t, rfl, rfl, et⟩, e3, e4⟩
          · cases h
      · cases h
    · cases h
  · cases h
theorem ih_E (ih : ∀ m, m ≤ n → IH m) (k : CxOk X s c) (h : trE s (n + 1) e = some p) : EOk X W c e p := by
  have iE := @(ih n (Nat.le_refl n)).E
  cases e with
  | Constant cc j pos => exact e_const h
  | Name x pos => exact e_name k h
  | Tuple es j pos => exact e_tup ih k h
  | List es pos => exact e_lst ih k h
  | Dict ks vs pos => exact e_dict k h
  | BinOp a op b pos => exact e_bin ih k h
  | UnaryOp op a pos => exact e_un ih k h
  | Compare a ops bs pos => exact (e_cmp ih k h).1
  | BoolOp op es pos => exact e_bool ih k h
  | IfExp t a b pos => exact e_ife ih k h
  | Subscript a b pos => exact e_sub ih k h
  | Call f es kws pos => exact e_call ih k h
  | ListComp elt gs scope pos =>
    obtain ⟨tg, it, ifs, own, g, l, t, q, rfl, rfl, hb, e1, e2, e3, e4, e5⟩ := lc_parts h
    exact eo_lc k (blk_of ih k hb e1 e2 e3 e4) fun X' hX k' => iE k' e5
  | DictComp kx vx gs scope pos =>
    obtain ⟨tg, it, ifs, own, g, l, t, q, r, rfl, rfl, hb, e1, e2, e3, e4, e5, e6⟩ := dc_parts h
    exact eo_dc k (blk_of ih k hb e1 e2 e3 e4) (fun X' hX k' => iE k' e5) fun X' hX k' => iE k' e6
  | _ => unfold trE at h; cases h
theorem ih_O (ih : ∀ m, m ≤ n → IH m) (k : CxOk X s c) {e : Option Expr} {q : QO} (h : trO s (n + 1) e = some q) : L2.PO X e (RQ X W c q) := by
  cases e with
  | none => unfold trO at h; cases h; exact po_no
  | some e =>
    unfold trO at h
    obtain ⟨q, e1, rfl⟩ := map_some h
    exact po_so ((ih n (Nat.le_refl n)).E k e1)
theorem ih_B (ih : ∀ m, m ≤ n → IH m) (k : CxOk X s c) {op : BoolOp} {es : List Expr} {q : QT} (h : trT s (n + 1) (.BoolOp op es pos) = some q) : PW X (.BoolOp op es pos) (RT X W c q) := by
  have iT := @(ih n (Nat.le_refl n)).T
  have iB := @(ih n (Nat.le_refl n)).B
  match op, es, h with
  | op, [], h =>
    cases op <;> unfold trT at h
    all_goals
      obtain ⟨q, e1, rfl⟩ := map_some h
      cases n <;> (unfold trE at e1; cases e1)
  | .And, [a], h => unfold trT at h; exact pw_and1 (iT k h)
  | .Or, [a], h => unfold trT at h; exact pw_or1 (iT k h)
  | .And, a :: b :: r, h =>
    unfold trT at h
    split at h
    · rename_i q1 q2 e1 e2
      cases h
      exact ot_and (iT k e1) (iB k e2)
    · cases h
  | .Or, a :: b :: r, h =>
    unfold trT at h
    split at h
    · rename_i q1 q2 e1 e2
      cases h
      exact ot_or (iT k e1) (iB k e2)
    · cases h
theorem ih_T (ih : ∀ m, m ≤ n → IH m) (k : CxOk X s c) {q : QT} (h : trT s (n + 1) e = some q) : L2.PT X e (RT X W c q) := by
  have iE := @(ih n (Nat.le_refl n)).E
  have plain : (trE s n e).map .tru = some q → (∀ whole, isTrue e X.env whole = (do let v ← whole; standAt e.pos; holding [v] (truthy v))) → L2.PT X e (RT X W c q) := fun h hp => by
    obtain ⟨p, e1, rfl⟩ := map_some h
    exact ot_tru (iE k e1) hp
  cases e with
  | BoolOp op es pos => exact (ih_B ih k h).pt
  | UnaryOp op a pos =>
    cases op with
    | Not =>
      unfold trT at h
      obtain ⟨q, e1, rfl⟩ := map_some h
      exact ot_not ((ih n (Nat.le_refl n)).T k e1)
    | _ => unfold trT at h; exact plain h fun _ => rfl
  | IfExp t a b pos => unfold trT at h; cases h
  | Compare a ops bs pos =>
    unfold trT at h
    obtain ⟨p, e1, rfl⟩ := map_some h
    cases n with
    | zero => unfold trE at e1; cases e1
    | succ m => exact (e_cmp (fun j hj => ih j (Nat.le_succ_of_le hj)) k e1).2
  | _ => unfold trT at h; exact plain h fun _ => rfl
theorem isTup_ok {tg : Expr} (h : isTup tg = true) : ∃ es k p, tg = .Tuple es k p := by
  cases tg with
  | Tuple es k p => exact ⟨es, k, p, rfl⟩
  | _ => cases h
theorem ih_L (ih : ∀ m, m ≤ n → IH m) (k : CxOk X s c) {tg : Expr} {q : QL} (h : trL s (n + 1) tg e = some q) : PI X tg e (RI X W c q) ∧ isSetD e = false := by
  have iE := @(ih n (Nat.le_refl n)).E
  unfold trL at h
  split at h
  · cases h
  · rename_i hs
    refine ⟨?_, by simpa using hs⟩
    have plain : (trE s n e).map .ex = some q → PI X tg e (RI X W c q) := fun h => by
      obtain ⟨p, e1, rfl⟩ := map_some h
      exact il_ex (iE k e1)
    split at h
    · split at h
      · rename_i hc
        obtain ⟨rfl, hg, hsig, hst⟩ := hc
        obtain ⟨p, e1, rfl⟩ := map_some h
        exact il_rng1 (isGl_ok k hg).1 (k.blt _ (by decide)) (star_no e1) (iE k e1)
      · exact plain h
    · split at h
      · rename_i hc
        obtain ⟨rfl, hg, hsig, hst⟩ := hc
        split at h
        · rename_i q1 q2 e1 e2
          cases h
          exact il_rng2 (isGl_ok k hg).1 (k.blt _ (by decide)) (star_no e1) (star_no e2) (iE k e1) (iE k e2)
        · cases h
      · split at h
        · rename_i hc
          obtain ⟨rfl, hg, hsig, hst, hst2, htup⟩ := hc
          split at h
          · rename_i q1 q2 e1 e2
            cases h
            obtain ⟨els, kk, tp, rfl⟩ := isTup_ok htup
            exact il_zip (isGl_ok k hg).1 (k.blt _ (by decide)) (star_no e1) (star_no e2) (iE k e1) (iE k e2)
          · cases h
        · exact plain h
    · exact plain h
theorem ih_all : ∀ n m, m ≤ n → IH m
  | 0, m, hm => by
    have : m = 0 := by omega
    subst this
    constructor
    · intro X s W c e p k h
      unfold trE at h
      cases h
    · intro X s W c e p k h
      cases e with
      | none => unfold trO at h; cases h; exact po_no
      | some e => unfold trO at h; cases h
    · intro X s W c e p k h
      unfold trT at h
      cases h
    · intro X s W c op es pos p k h
      unfold trT at h
      cases h
    · intro X s W c tg e p k h
      unfold trL at h
      cases h
  | n + 1, m, hm => by
    by_cases h : m ≤ n
    · exact ih_all n m h
    · have : m = n + 1 := by omega
      subst this
      have ih := ih_all n
      exact ⟨fun k h => ih_E ih k h, fun k h => ih_O ih k h, fun k h => ih_T ih k h, fun k h => ih_B ih k h, fun k h => ih_L ih k h⟩
theorem trE_ok (k : CxOk X s c) (h : trE s n e = some p) : EOk X W c e p := (ih_all n n (Nat.le_refl n)).E k h
end
end DE
set_option maxHeartbeats 1000000
/-! # DeY: what the translation says is so: statements -/
namespace DE
open PySem PySem.Spec PyProof.Rows L2

section
variable {n : Nat} {X : Cx} {s : Scp} {W : WishX} {c : Ctx} {e : Expr} {st : Stmt} {q : QS} {pos : Pos}
theorem st_retV' {fx : List Nat} {i : Nat} (he : EOk X W c e (.var i)) : PS X (.Return (some e) pos) (RS X W c fx (.ret (.var i))) := (ps_ret he.opd).imp fun D σ H ⟨o, ρ, e1, gd, r, pp⟩ => by
  subst e1
  have pp : SPost X.K W σ o fx D (match (ρ[i]?).join with
      | some d => .rt d (ρ.set i none)
      | none => .stuck) := pp
  cases e : (ρ[i]?).join with
  | none => rw [e] at pp; exact False.elim pp
  | some d =>
    rw [e] at pp
    refine ⟨o, ρ, rfl, gd, r, ?_⟩
    have em : mkOpd (.var i) (ev c (.var i)) ρ = .ok (.slot i) ρ := by unfold mkOpd; dsimp only; rw [e]
    rw [em]
    intro v H I F G s1 r1 ⟨hv, hG⟩
    obtain ⟨v', G', F', h1, h2, h3, h4⟩ := r1.take (join_some e)
    rw [hv] at h1
    cases h1
    exact pp v σ H I F' G' (s1.weak fun b => by have := h4 b; omega) h3 h2 Kept.refl
structure SxOk (X : Cx) (s : Scp) (c : Ctx) : Prop where
  cx : CxOk X s c
  po : PassesOwn (model X.prog X.w) X.A X.env X.xe
theorem fx_ok {g : QG} (h : fxOk s g = true) : FxOk s.fx g := fun i hi hf => by
  unfold fxOk at h
  rw [List.all_eq_true] at h
  have := h i hi
  simp [hf] at this
/-- statements at a depth -/
structure IS (n : Nat) : Prop where
  S : ∀ {X : Cx} {s : Scp} {W : WishX} {c : Ctx} {st : Stmt} {q : QS}, SxOk X s c → trS s n st = some q → PS X st (RS X W c s.fx q)
  B : ∀ {X : Cx} {s : Scp} {W : WishX} {c : Ctx} {st : List Stmt} {q : QSs}, SxOk X s c → trSs s n st = some q → PSs X st (RSs X W c s.fx q)
theorem is_set (k : SxOk X s c) {y : Str} {py : Pos} {i : Nat} {p : PX} (hi : storeOf s y = some i) (he : trE s n e = some p) (hf : fxOk s (.nm i) = true) : PS X (.Assign [.Name y py] e pos) (RS X W c s.fx (.set (.nm i) p)) := by
  have hf := fx_ok hf
  cases n with
  | zero => unfold trE at he; cases he
  | succ m =>
    have ih := ih_all m
    cases e with
    | ListComp elt gs scope pos =>
      obtain ⟨tg, it, ifs, own, g, l, t, q, rfl, rfl, hb, e1, e2, e3, e4, e5⟩ := lc_parts he
      exact st_setLc k.cx hi hf (blk_of ih k.cx hb e1 e2 e3 e4) fun X' hX k' => (ih m (Nat.le_refl m)).E k' e5
    | DictComp kx vx gs scope pos =>
      obtain ⟨tg, it, ifs, own, g, l, t, q, r, rfl, rfl, hb, e1, e2, e3, e4, e5, e6⟩ := dc_parts he
      exact st_setDc k.cx hi hf (blk_of ih k.cx hb e1 e2 e3 e4) (fun X' hX k' => (ih m (Nat.le_refl m)).E k' e5) fun X' hX k' => (ih m (Nat.le_refl m)).E k' e6
    | SetComp _ _ _ _ => unfold trE at he; cases he
    | _ => exact st_set k.cx hi hf (trE_ok k.cx he) rfl
theorem swapped_none {ts : List Expr} {kk : Nat} {tpos : Pos} {env : PySem.Env} (h : isTup e = false) : swappedStores [.Tuple ts kk tpos] e env = pure none := by cases e <;> first | rfl | cases h
theorem swaps_no {env : PySem.Env} {l : Nat} (h : isComp e = false) : swapsWith e none l env = pure false := by cases e <;> first | rfl | cases h
theorem is_S (ih : IS n) (k : SxOk X s c) (h : trS s (n + 1) st = some q) : PS X st (RS X W c s.fx q) := by
  unfold trS at h
  split at h
  · rename_i h0; cases h0
  · rename_i h0; cases h0
    split at h
    · rename_i i p e1 e2
      split at h
      · rename_i hf
        cases h
        exact is_set k e1 e2 hf
      · cases h
    · cases h
  · rename_i h0; cases h0
    split at h
    · rename_i hc
      split at h
      · rename_i g p e1 e2
        split at h
        · rename_i hf
          cases h
          exact st_tup k.cx e1 (fx_ok hf) (trE_ok k.cx e2) rfl (swapped_no (by unfold someCell at hc; rw [k.cx.sc]; exact hc))
        · cases h
      · cases h
    · cases h
  · rename_i h0; cases h0
    split at h
    · cases h
    · rename_i hc
      simp only [Bool.or_eq_true, not_or, Bool.not_eq_true] at hc
      split at h
      · rename_i g p e1 e2
        split at h
        · rename_i hf
          cases h
          exact st_tup k.cx e1 (fx_ok hf) (trE_ok k.cx e2) hc.1 (swapped_none hc.2)
        · cases h
      · cases h
  · rename_i h0; cases h0
    split at h
    · cases h
    · rename_i hc
      simp only [Bool.or_eq_true, not_or, Bool.not_eq_true] at hc
      split at h
      · rename_i x y z e1 e2 e3
        cases h
        exact st_setI k.cx.hu (trE_ok k.cx e3) hc.2 (trE_ok k.cx e1) (trE_ok k.cx e2) hc.1
      · cases h
  · rename_i h0; cases h0
    split at h
    · rename_i hc
      obtain ⟨rfl, hst, hl⟩ := hc
      split at h
      · rename_i x y e1 e2
        cases h
        exact st_app (trE_ok k.cx e1) (trE_ok k.cx e2) (fun _ _ _ _ z => nomatch z) (star_no e2) hl
      · cases h
    · cases h
  · rename_i h0; cases h0
    split at h
    · cases h
    · rename_i hc
      obtain ⟨p, e1, rfl⟩ := map_some h
      exact st_exp (trE_ok k.cx e1) (swaps_no (by simpa using hc))
  · rename_i h0; cases h0
    split at h
    · rename_i t a b e1 e2 e3
      cases h
      exact st_if ((ih_all n n (Nat.le_refl n)).T k.cx e1) (ih.B k e2) (ih.B k e3)
    · cases h
  · rename_i h0; cases h0
    split at h
    · rename_i g l b e1 e2 e3
      split at h
      · rename_i hf
        cases h
        obtain ⟨w1, w2⟩ := (ih_all n n (Nat.le_refl n)).L (W := W) k.cx e2
        exact st_for k.po k.cx.calm (fx_ok hf) w1 (pg_tg k.cx e1) (ih.B k e3) w2
      · cases h
    · cases h
  · rename_i h0; cases h0
    cases h
    exact st_retN
  · rename_i h0; cases h0
    obtain ⟨p, e1, rfl⟩ := map_some h
    have q := trE_ok (W := W) k.cx e1
    by_cases hp : ∃ i, p = .var i
    · obtain ⟨i, rfl⟩ := hp
      exact st_retV' q
    · exact st_ret (fun i z => hp ⟨i, z⟩) q
  · cases h
    exact st_never
  · cases h
theorem is_B (ih : IS n) (k : SxOk X s c) {sts : List Stmt} {q : QSs} (h : trSs s (n + 1) sts = some q) : PSs X sts (RSs X W c s.fx q) := by
  cases sts with
  | nil => unfold trSs at h; cases h; exact ss_nil
  | cons t r =>
    unfold trSs at h
    split at h
    · rename_i p1 p2 e1 e2
      cases h
      exact ss_cons (ih.S k e1) (ih.B k e2)
    · cases h
theorem is_all : ∀ n, IS n
  | 0 => by
    constructor
    · intro X s W c st q k h
      unfold trS at h
      cases h
    · intro X s W c st q k h
      cases st with
      | nil => unfold trSs at h; cases h; exact ss_nil
      | cons t r => unfold trSs at h; cases h
  | n + 1 => ⟨fun k h => is_S (is_all n) k h, fun k h => is_B (is_all n) k h⟩
end
end DE
/-! # DeZ: a text's functions -/
namespace DE
open PySem PySem.Spec PyProof.Rows L2

def fxOf (ms : List Bool) : List Nat := (List.range ms.length).filter fun i => ms.getD i false
theorem mem_fxOf {ms : List Bool} {i : Nat} (h : ms[i]? = some true) : i ∈ fxOf ms := by
  have hl : i < ms.length := (List.getElem?_eq_some_iff.mp h).1
  refine List.mem_filter.mpr ⟨List.mem_range.mpr hl, ?_⟩
  rw [List.getD_eq_getElem?_getD, h]; rfl
section
variable {K : PySem.W.Frag} {H : Hp} {I : AP}
theorem RelE.nones : ∀ m : Nat, RelE K H I (List.replicate m none) (List.replicate m none) (fun _ => 0)
  | 0 => .nl fun _ => rfl
  | m + 1 => .no (RelE.nones m)
theorem RelE.start : ∀ {vs : List V} {ds : List D} {F : Fp} (m : Nat), Reps K H I vs ds F → RelE K H I (vs.map some ++ List.replicate m none) (ds.map some ++ List.replicate m none) F
  | _, _, _, m, .nil hF => (RelE.nones m).eqF hF
  | _, _, _, m, .cons h t hF => .so h (RelE.start m t) hF
theorem outs_rep : ∀ {ms : List Bool} {vs : List V} {m : List D} {σ : L2.St} {ρ : DE.Env} {F : Fp}, RelE K H I σ ρ F → outsOf ms ρ = some m → ms.length = vs.length → (∀ (i : Nat) v, ms[i]? = some true → vs[i]? = some v → σ[i]? = some (some v)) → ∃ G, RepM K H I ms vs m G ∧ ∀ b, G b ≤ F b
  | [], [], m, σ, ρ, F, r, h, _, _ => by
    cases h
    exact ⟨fun _ => 0, fun _ => rfl, fun _ => Nat.zero_le _⟩
  | [], _ :: _, _, _, _, _, _, _, h, _ => by cases h
  | _ :: _, [], _, _, _, _, _, _, h, _ => by cases h
  | false :: ms, v :: vs, m, σ, ρ, F, r, h, hl, hs => by
    cases r with
    | nl _ => cases h
    | @no F o σ ρ t =>
      obtain ⟨G, g1, g2⟩ := outs_rep (ms := ms) (vs := vs) (m := m) t h (by simpa using hl) fun i v a b => by have := hs (i + 1) v (by simpa using a) (by simpa using b); simpa using this
      exact ⟨G, g1, g2⟩
    | @so F F1 F2 v0 d0 σ ρ a t hF =>
      obtain ⟨G, g1, g2⟩ := outs_rep (ms := ms) (vs := vs) (m := m) t h (by simpa using hl) fun i v a b => by have := hs (i + 1) v (by simpa using a) (by simpa using b); simpa using this
      exact ⟨G, g1, fun b => by have := g2 b; have := hF b; omega⟩
  | true :: ms, v :: vs, m, σ, ρ, F, r, h, hl, hs => by
    cases r with
    | nl _ => cases h
    | no t => cases h
    | @so F F1 F2 v0 d0 σ ρ a t hF =>
      have h : (outsOf ms ρ).map (d0 :: ·) = some m := h
      obtain ⟨m', e1, rfl⟩ := map_some h
      obtain ⟨G, g1, g2⟩ := outs_rep (ms := ms) (vs := vs) (m := m') t e1 (by simpa using hl) fun i v a b => by have := hs (i + 1) v (by simpa using a) (by simpa using b); simpa using this
      have hv := hs 0 v rfl rfl
      simp at hv
      subst hv
      exact ⟨fun b => F1 b + G b, ⟨F1, G, a, g1, fun _ => rfl⟩, fun b => by have := g2 b; have := hF b; dsimp only; omega⟩
end
/-- a function of the text, as the head gives it -/
structure Stat (K : PySem.W.Frag) (mg : Str → Option Value) (tab : Str → Option FnI) (x : Str) (i : FnI) (f : Addr) (fd : FuncData) : Prop where
  m : mg x = some (.ref f)
  kp : PySem.W.keepIn K (.ref f) = true
  fn : ∃ (st : Stmt) (N : List Str) (n : Nat), L2.Fun K x x st f fd ∧ FnScope N i.sig.ps (defScope st) ∧ i.n = N.length ∧ trSs ⟨N, defScope st, fun _ => true, fun g => (tab g).map (·.sig), fxOf i.sig.ms⟩ n (defBody st) = some i.body ∧ i.sig.ms.length = i.sig.ps.length
  bd : ∀ n ks perm, i.sig.pats.contains (n, ks) = true → permOf n ks i.sig.ps 0 = some perm → BindP K fd i.sig.ps n ks perm
section
variable {P : Program} {w : World} {K : PySem.W.Frag} {mg : Str → Option Value} {base : Heap} {tab : Str → Option FnI}
theorem fn_step (hb : ∀ x ∈ bltNames, mg x = none) (hst : ∀ x i, tab x = some i → ∃ f fd, Stat K mg tab x i f fd) : ∀ (k : Nat) (x : Str) (i : FnI) (f : Addr) (fd : FuncData), tab x = some i → Stat K mg tab x i f fd →
    FnOk P w K mg base (L2.CX P w) k f fd i.sig.ps (spOf K (callK tab k x) i.sig.ms i.sig.ps.length)
  | 0, x, i, f, fd, hx, S => by
    refine ⟨fun vs H Q E h => h.1, fun A outer s H args us vs Q E hr he hb2 hv h => ?_⟩
    obtain ⟨_, o, ds, _, _, _, z⟩ := h
    exact False.elim z
  | k + 1, x, i, f, fd, hx, S => by
    obtain ⟨st, N, n, F, FS, hn, htr, hms⟩ := S.fn
    refine F.okX FS (fun vs H Q E h => h.1) fun cdv A outer s H vs Q E hr h => ?_
    let c : Ctx := ⟨fun g => (tab g).map (·.sig), callK tab k⟩
    let sc : Scp := ⟨N, defScope st, fun _ => true, fun g => (tab g).map (·.sig), fxOf i.sig.ms⟩
    have cx : CxOk (cxOf (L2.CX P w) P w K mg base N x (defScope st) f cdv A outer s H E) sc c := by
      refine ⟨rfl, rfl, rfl, FS.nd, rfl, by have := hr.un; show (A.deeper (envOfC x (defScope st) s.heap.objs.size f cdv)).units + 66 < cLine; omega, hb, rfl, fun y g hy => ?_⟩
      have hy : (tab y).map (·.sig) = some g := hy
      obtain ⟨j, ej, rfl⟩ := map_some hy
      obtain ⟨f2, fd2, S2⟩ := hst y j ej
      exact ⟨f2, fd2, k, S2.m, S2.kp, hr, fn_step hb hst k y j f2 fd2 ej S2, S2.bd⟩
    have sx : SxOk (cxOf (L2.CX P w) P w K mg base N x (defScope st) f cdv A outer s H E) sc c := ⟨cx, passes_of rfl⟩
    refine ⟨_, (is_all n).B (W := W0) sx htr, ?_⟩
    obtain ⟨hl, o, ds, e1, gd, rs, hp⟩ := h
    have hld : ds.length = i.sig.ps.length := by rw [← rs.length]; exact hl
    have hc : callK tab (k + 1) x ds = runF c i ds := by unfold callK; rw [hx]
    rw [hc] at hp
    unfold runF at hp
    rw [if_pos hld] at hp
    have e2 : i.n - ds.length = N.length - vs.length := by rw [hn, rs.length]
    rw [e2] at hp
    refine ⟨o, _, e1, gd, by show RelE _ _ _ (L2.start N vs) _ _; exact RelE.start _ rs, ?_⟩
    have kept : ∀ {σ : L2.St}, Kept (fxOf i.sig.ms) (L2.start N vs) σ → ∀ (j : Nat) v, i.sig.ms[j]? = some true → vs[j]? = some v → σ[j]? = some (some v) := fun {σ} hk j v h1 h2 => by
      rw [hk j (mem_fxOf h1)]
      unfold L2.start
      rw [List.getElem?_append_left (by rw [List.length_map]; exact (List.getElem?_eq_some_iff.mp h2).1), List.getElem?_map, h2]; rfl
    have hmv : i.sig.ms.length = vs.length := by rw [hms, hl]
    generalize exs c i.body (ds.map some ++ List.replicate (N.length - vs.length) none) = out at hp ⊢
    cases out with
    | nx ρ =>
      dsimp only at hp
      cases ho : outsOf i.sig.ms ρ with
      | none => rw [ho] at hp; exact False.elim hp
      | some m =>
        rw [ho] at hp
        intro σ H' I' F' s' r' k'
        obtain ⟨G, g1, g2⟩ := outs_rep r' ho hmv (kept k')
        exact hp .non H' I' (fun _ => 0) G (s'.weak fun b => by have := g2 b; omega) (.non fun _ => rfl) g1
    | rt d ρ =>
      dsimp only at hp
      cases ho : outsOf i.sig.ms ρ with
      | none => rw [ho] at hp; exact False.elim hp
      | some m =>
        rw [ho] at hp
        intro v σ H' I' F' G' s' r' rv k'
        obtain ⟨G, g1, g2⟩ := outs_rep r' ho hmv (kept k')
        exact hp v H' I' G' G (s'.weak fun b => by have := g2 b; omega) rv g1
    | exc n x ρ =>
      dsimp only at hp
      cases ho : outsOf i.sig.ms ρ with
      | none => rw [ho] at hp; exact False.elim hp
      | some m => rw [ho] at hp; exact False.elim hp
    | bk _ => exact False.elim hp
    | ct _ => exact False.elim hp
    | stuck => exact False.elim hp
end
end DE
/-! # DeZb: the head's facts -/
namespace DE
open PySem PySem.Spec PyProof.Rows L2

/-- a def as the head gives it -/
structure DefAt (K : PySem.W.Frag) (mg : Str → Option Value) (x : Str) (st : Stmt) : Prop where
  ex : ∃ (f : Addr) (kV doc pm : Value) (an : Option Addr) (cdv ct : Value), mg x = some (.ref f) ∧ PySem.W.keepIn K (.ref f) = true ∧
    L2.Fun K x x st f (PySem.W.fnOf x x (defArgs st) (defBody st) (defScope st) .none kV doc pm an cdv ct)
theorem def_mk {K : PySem.W.Frag} {h : Heap} {mg : Str → Option Value} {x : Str} {st : Stmt} {f : Addr} {oc : Value} {od an : Option Addr} {osl : Array (Option Value)} {kV doc pm cdv ct : Value} (X : K.In h) (G : h.Ns mainGlobals mg)
    (a : PySem.W.nsIn K mainGlobals x = some (some (.ref f))) (l : K.lookup f = some ⟨oc, od, .func (PySem.W.fnOf x x (defArgs st) (defBody st) (defScope st) .none kV doc pm an cdv ct), osl⟩)
    (c : PySem.W.codeIn K cdv x = true) (k : PySem.W.keepIn K (.ref f) = true) : DefAt K mg x st := ⟨f, kV, doc, pm, an, cdv, ct, PySem.W.mg_of X G a, k, fun_mk l c k⟩
section
variable {K : PySem.W.Frag} {mg : Str → Option Value} {tab : Str → Option FnI} {x : Str} {st : Stmt} {i : FnI} {N : List Str} {n : Nat}
theorem stat_mk (d : DefAt K mg x st) (sc : FnScope N i.sig.ps (defScope st)) (hn : i.n = N.length)
    (tr : trSs ⟨N, defScope st, fun _ => true, fun g => (tab g).map (·.sig), fxOf i.sig.ms⟩ n (defBody st) = some i.body) (hm : i.sig.ms.length = i.sig.ps.length)
    (bd : ∀ (kV doc pm : Value) (an : Option Addr) (cdv ct : Value), ∀ n ks perm, i.sig.pats.contains (n, ks) = true → permOf n ks i.sig.ps 0 = some perm → BindP K (PySem.W.fnOf x x (defArgs st) (defBody st) (defScope st) .none kV doc pm an cdv ct) i.sig.ps n ks perm) :
    ∃ f fd, Stat K mg tab x i f fd := by
  obtain ⟨f, kV, doc, pm, an, cdv, ct, h1, h2, h3⟩ := d.ex
  exact ⟨f, _, h1, h2, ⟨st, N, n, h3, sc, hn, tr, hm⟩, bd kV doc pm an cdv ct⟩
theorem law_stat (d : DefAt K mg x st) (sc : FnScope N i.sig.ps (defScope st)) (hn : i.n = N.length)
    (tr : trSs ⟨N, defScope st, fun _ => true, fun g => (tab g).map (·.sig), fxOf i.sig.ms⟩ n (defBody st) = some i.body) (hm : i.sig.ms.length = i.sig.ps.length)
    (bd : ∀ (kV doc pm : Value) (an : Option Addr) (cdv ct : Value), ∀ n ks perm, i.sig.pats.contains (n, ks) = true → permOf n ks i.sig.ps 0 = some perm → BindP K (PySem.W.fnOf x x (defArgs st) (defBody st) (defScope st) .none kV doc pm an cdv ct) i.sig.ps n ks perm)
    (_ht : tab x = some i) : ∃ f fd, Stat K mg tab x i f fd ∧ ∃ (kV doc pm : Value) (an : Option Addr) (cdv ct : Value), fd = PySem.W.fnOf x x (defArgs st) (defBody st) (defScope st) .none kV doc pm an cdv ct := by
  obtain ⟨f, kV, doc, pm, an, cdv, ct, h1, h2, h3⟩ := d.ex
  exact ⟨f, _, ⟨h1, h2, ⟨st, N, n, h3, sc, hn, tr, hm⟩, bd kV doc pm an cdv ct⟩, kV, doc, pm, an, cdv, ct, rfl⟩
theorem noCX {P : Program} {w : World} {H : Hp} {s : Shared} {e : Value} {s' : Shared} (h : L2.CX P w [] H s (fun _ _ _ => False) e s') : False := by
  obtain ⟨_, _, _, _, _, _, _, _, _, _, _, _, z⟩ := h
  exact z
/-- the law's call: from the script -/
theorem start_law {H : Hp} {a : Addr} {ns : List Int} {r : List D → COut} (hl : ns.length ≤ 63) (hO : Only H) (hq : SqL K H a (ns.map V.int)) (hr : ∃ m, r [.frl ns] = .ok (.bl true) m) : spOf K r [false] 1 [.ref a] H (fun v _ => v = .bl true) fun _ _ _ => False := by
  obtain ⟨m, hr⟩ := hr
  have hz : ns.length ≤ sizeLine := Nat.le_trans hl (by rw [sizeLine_eq]; decide)
  have ha : FrlAt K H (fun b => ∃ o xs, H b = some (.frz o (.lst xs))) a ns := by
    rcases hq with hq | hq
    · rcases hq with e | ⟨o, e⟩
      · rcases hO a with z | ⟨o, xs, z⟩
        · rw [e] at z; cases z
        · rw [e] at z; cases z
      · exact .inl ⟨⟨o, _, e⟩, o, e⟩
    · exact .inr hq
  refine ⟨rfl, ⟨fun _ => 0, H, fun b => ∃ o xs, H b = some (.frz o (.lst xs))⟩, [.frl ns], rfl, ⟨fun b => Nat.zero_le _, fun b h => absurd rfl h, fun b ⟨o, xs, e⟩ => by show H b ≠ none; rw [e]; simp⟩, .cons (.frl ha hz fun _ => rfl) (.nil (F := fun _ => 0) fun _ => rfl) fun _ => rfl, ?_⟩
  rw [hr]
  intro v H' I' G Gm s rv rm
  cases rv
  rfl
end
theorem blt_none {K : PySem.W.Frag} {h : Heap} {mg : Str → Option Value} (X : K.In h) (G : h.Ns mainGlobals mg) (z0 : PySem.W.nsIn K mainGlobals "len" = some none) (z1 : PySem.W.nsIn K mainGlobals "abs" = some none) (z2 : PySem.W.nsIn K mainGlobals "int" = some none) (z3 : PySem.W.nsIn K mainGlobals "max" = some none) (z4 : PySem.W.nsIn K mainGlobals "min" = some none) (z5 : PySem.W.nsIn K mainGlobals "sum" = some none) (z6 : PySem.W.nsIn K mainGlobals "all" = some none) (z7 : PySem.W.nsIn K mainGlobals "any" = some none) (z8 : PySem.W.nsIn K mainGlobals "list" = some none) (z9 : PySem.W.nsIn K mainGlobals "tuple" = some none) (z10 : PySem.W.nsIn K mainGlobals "sorted" = some none) (z11 : PySem.W.nsIn K mainGlobals "isinstance" = some none) (z12 : PySem.W.nsIn K mainGlobals "bool" = some none) (z13 : PySem.W.nsIn K mainGlobals "str" = some none) (z14 : PySem.W.nsIn K mainGlobals "dict" = some none) (z15 : PySem.W.nsIn K mainGlobals "range" = some none) (z16 : PySem.W.nsIn K mainGlobals "zip" = some none) : ∀ x ∈ bltNames, mg x = none := by
  intro x hx
  unfold bltNames at hx
  rcases List.mem_cons.mp hx with e | hx
  · subst e; exact PySem.W.mg_none_of X G z0
  rcases List.mem_cons.mp hx with e | hx
  · subst e; exact PySem.W.mg_none_of X G z1
  rcases List.mem_cons.mp hx with e | hx
  · subst e; exact PySem.W.mg_none_of X G z2
  rcases List.mem_cons.mp hx with e | hx
  · subst e; exact PySem.W.mg_none_of X G z3
  rcases List.mem_cons.mp hx with e | hx
  · subst e; exact PySem.W.mg_none_of X G z4
  rcases List.mem_cons.mp hx with e | hx
  · subst e; exact PySem.W.mg_none_of X G z5
  rcases List.mem_cons.mp hx with e | hx
  · subst e; exact PySem.W.mg_none_of X G z6
  rcases List.mem_cons.mp hx with e | hx
  · subst e; exact PySem.W.mg_none_of X G z7
  rcases List.mem_cons.mp hx with e | hx
  · subst e; exact PySem.W.mg_none_of X G z8
  rcases List.mem_cons.mp hx with e | hx
  · subst e; exact PySem.W.mg_none_of X G z9
  rcases List.mem_cons.mp hx with e | hx
  · subst e; exact PySem.W.mg_none_of X G z10
  rcases List.mem_cons.mp hx with e | hx
  · subst e; exact PySem.W.mg_none_of X G z11
  rcases List.mem_cons.mp hx with e | hx
  · subst e; exact PySem.W.mg_none_of X G z12
  rcases List.mem_cons.mp hx with e | hx
  · subst e; exact PySem.W.mg_none_of X G z13
  rcases List.mem_cons.mp hx with e | hx
  · subst e; exact PySem.W.mg_none_of X G z14
  rcases List.mem_cons.mp hx with e | hx
  · subst e; exact PySem.W.mg_none_of X G z15
  rcases List.mem_cons.mp hx with e | hx
  · subst e; exact PySem.W.mg_none_of X G z16
  cases hx
theorem walk {l : PySem.W.OpenLaw} {q : Program} {loose : List Str} {XP : (Str → Option Value) → Heap → Prop} {YP : World → Heap → Prop} {d : DefRec} {K : Params → PySem.W.Frag} {tab : Str → Option FnI} (hn : l.most = some 63) (hdf : d.params.defaults = [])
    (hY : ∀ (w : World) (h : Heap), YP w h → (K w.params).In h)
    (F : ∀ (w : World) (mg : Str → Option Value) (fa : Addr) (h : Heap), (K w.params).In h → h.Ns mainGlobals mg → mg d.name = some (.ref fa) →
      ∃ fd : FuncData, (∀ (s : Shared) (u : Value), BindsTo s fd ⟨[u], []⟩ [("script", u)]) ∧ ∀ base : Heap, (K w.params).In base → base.Ns mainGlobals mg → FnOk l.prog w (K w.params) mg base (L2.CX l.prog w) 20 fa fd ["script"] (spOf (K w.params) (callK tab 20 "law") [false] 1))
    (math : ∀ ns : List Int, ns.length ≤ 63 → ∃ m, callK tab 20 "law" [.frl ns] = .ok (.bl true) m) :
    PySem.W.WalkO q loose XP YP l.row.toRowW d [] (fun f vs => PySem.call f vs) :=
  L2.walk_of (n := 63) (k := 20) (x := "script") (CX := fun w => L2.CX l.prog w) (sp := fun w => spOf (K w.params) (callK tab 20 "law") [false] 1) hn (by rw [sizeLine_eq]; decide) hdf ⟨rfl, by decide, by decide⟩ hY F
    (fun w H a ns hl hO hS => start_law hl hO hS (math ns hl)) fun _ _ _ _ _ z => noCX z
end DE
/-! # DeEa: the evaluator's equations, for an environment that is written out (so that simp leaves what comes later alone); rules for loops -/
namespace DE
open PySem PySem.Spec PyProof.Rows L2
theorem eev_cst (c : Ctx) (d : D) (q : Option D) (ρ : Env) : ev c (.cst d) (q :: ρ) = .ok d (q :: ρ) := by rw [ev]; try rfl
theorem eev_var (c : Ctx) (i : Nat) (q : Option D) (ρ : Env) : ev c (.var i) (q :: ρ) = readV i (q :: ρ) := by rw [ev]; try rfl
theorem eev_tupD (c : Ctx) (es : PXs) (q : Option D) (ρ : Env) : ev c (.tupD es) (q :: ρ) = (evs c es (q :: ρ)).bind fun xs ρ => (shareO xs ρ).bind fun ds ρ => if sizeOk ds.length then .ok (.tup ds) ρ else .stuck := by rw [ev]; try rfl
theorem eev_lstD (c : Ctx) (es : PXs) (q : Option D) (ρ : Env) : ev c (.lstD es) (q :: ρ) = (evs c es (q :: ρ)).bind fun xs ρ => (shareO xs ρ).bind fun ds ρ => if sizeOk ds.length then .ok (.lst true ds) ρ else .stuck := by rw [ev]; try rfl
theorem eev_dic0 (c : Ctx)  (q : Option D) (ρ : Env) : ev c (.dic0) (q :: ρ) = .ok (.dic true []) (q :: ρ) := by rw [ev]; try rfl
theorem eev_bin (c : Ctx) (op : Operator) (a : PX) (b : PX) (q : Option D) (ρ : Env) : ev c (.bin op a b) (q :: ρ) = (mkOpd a (ev c a) (q :: ρ)).bind fun x ρ => (mkOpd b (ev c b) ρ).bind fun y ρ => op2 (binD op) x y ρ := by rw [ev]; try rfl
theorem eev_neg (c : Ctx) (a : PX) (q : Option D) (ρ : Env) : ev c (.neg a) (q :: ρ) = (mkOpd a (ev c a) (q :: ρ)).bind fun x ρ => op1 negD x ρ := by rw [ev]; try rfl
theorem eev_cmp (c : Ctx) (op : CmpOp) (a : PX) (b : PX) (q : Option D) (ρ : Env) : ev c (.cmp op a b) (q :: ρ) = (mkOpd a (ev c a) (q :: ρ)).bind fun x ρ => (mkOpd b (ev c b) ρ).bind fun y ρ => op2 (fun d e => (cmpD op d e).map .bl) x y ρ := by rw [ev]; try rfl
theorem eev_isN (c : Ctx) (ng : Bool) (a : PX) (q : Option D) (ρ : Env) : ev c (.isN ng a) (q :: ρ) = (mkOpd a (ev c a) (q :: ρ)).bind fun x ρ => op1 (isNO ng) x ρ := by rw [ev]; try rfl
theorem eev_chn (c : Ctx) (o1 : CmpOp) (o2 : CmpOp) (a : PX) (b : PX) (e : PX) (q : Option D) (ρ : Env) : ev c (.chn o1 o2 a b e) (q :: ρ) = (mkOpd a (ev c a) (q :: ρ)).bind fun x ρ => (mkOpd b (ev c b) ρ).bind fun y ρ => (op2 (fun d e => (cmpD o1 d e).map .bl) x y ρ).bind fun d ρ => bl1 (fun k => if k then (mkOpd e (ev c e) ρ).bind fun z ρ => op2 (fun d e => (cmpD o2 d e).map .bl) y z ρ else .ok (.bl false) ρ) d := by rw [ev]; try rfl
theorem eev_notE (c : Ctx) (a : PX) (q : Option D) (ρ : Env) : ev c (.notE a) (q :: ρ) = (mkOpd a (ev c a) (q :: ρ)).bind fun x ρ => op1 notD x ρ := by rw [ev]; try rfl
theorem eev_andE (c : Ctx) (a : PX) (b : PX) (q : Option D) (ρ : Env) : ev c (.andE a b) (q :: ρ) = (ev c a (q :: ρ)).bind fun d ρ => bl1 (fun k => if k then ev c b ρ else .ok (.bl false) ρ) d := by rw [ev]; try rfl
theorem eev_orE (c : Ctx) (a : PX) (b : PX) (q : Option D) (ρ : Env) : ev c (.orE a b) (q :: ρ) = (ev c a (q :: ρ)).bind fun d ρ => bl1 (fun k => if k then .ok (.bl true) ρ else ev c b ρ) d := by rw [ev]; try rfl
theorem eev_ite (c : Ctx) (t : QT) (a : PX) (b : PX) (q : Option D) (ρ : Env) : ev c (.ite t a b) (q :: ρ) = (evT c t (q :: ρ)).bind fun k ρ => if k then ev c a ρ else ev c b ρ := by rw [ev]; try rfl
theorem eev_sub (c : Ctx) (a : PX) (i : PX) (q : Option D) (ρ : Env) : ev c (.sub a i) (q :: ρ) = (mkOpd a (ev c a) (q :: ρ)).bind fun x ρ => (mkOpd i (ev c i) ρ).bind fun y ρ => subO x y ρ := by rw [ev]; try rfl
theorem eev_slc (c : Ctx) (a : PX) (lo : QO) (hi : QO) (q : Option D) (ρ : Env) : ev c (.slc a lo hi) (q :: ρ) = (mkOpd a (ev c a) (q :: ρ)).bind fun x ρ => (evO c lo ρ).bind fun l ρ => (evO c hi ρ).bind fun h ρ => op1 (fun d => slcD d l h) x ρ := by rw [ev]; try rfl
theorem eev_rev (c : Ctx) (a : PX) (q : Option D) (ρ : Env) : ev c (.rev a) (q :: ρ) = (mkOpd a (ev c a) (q :: ρ)).bind fun x ρ => op1 revD x ρ := by rw [ev]; try rfl
theorem eev_call (c : Ctx) (f : Str) (es : PXs) (perm : List Nat) (q : Option D) (ρ : Env) : ev c (.call f es perm) (q :: ρ) = (evs c es (q :: ρ)).bind fun xs ρ => callO c f perm xs ρ := by rw [ev]; try rfl
theorem eev_bi (c : Ctx) (f : String) (es : PXs) (q : Option D) (ρ : Env) : ev c (.bi f es) (q :: ρ) = (evs c es (q :: ρ)).bind fun xs ρ => opN (biD f) xs ρ := by rw [ev]; try rfl
theorem eev_isi (c : Ctx) (a : PX) (t : String) (q : Option D) (ρ : Env) : ev c (.isi a t) (q :: ρ) = (mkOpd a (ev c a) (q :: ρ)).bind fun x ρ => op1 (fun d => (isiD d t).map .bl) x ρ := by rw [ev]; try rfl
theorem eev_lc (c : Ctx) (own : List Nat) (tg : QG) (it : QL) (t : Option QT) (e : PX) (q : Option D) (ρ : Env) : ev c (.lc own tg it t e) (q :: ρ) = (evL c it (q :: ρ)).bind fun ds ρ => (noX (lcL own tg (evTo c t) (ev c e) ds [] (wipeE ρ own))).bind fun xs ρ' => .ok (.lst true xs) (backE ρ own ρ') := by rw [ev]; try rfl
theorem eev_dc (c : Ctx) (own : List Nat) (tg : QG) (it : QL) (t : Option QT) (k : PX) (v : PX) (q : Option D) (ρ : Env) : ev c (.dc own tg it t k v) (q :: ρ) = (evL c it (q :: ρ)).bind fun ds ρ => (noX (dcL own tg (evTo c t) (ev c k) (ev c v) ds [] (wipeE ρ own))).bind fun xs ρ' => .ok (.dic true xs) (backE ρ own ρ') := by rw [ev]; try rfl
theorem eev_sortK (c : Ctx) (a : PX) (f : String) (q : Option D) (ρ : Env) : ev c (.sortK a f) (q :: ρ) = (mkOpd a (ev c a) (q :: ρ)).bind fun x ρ => op1 (sortKD f) x ρ := by rw [ev]; try rfl
theorem eevs_nil (c : Ctx)  (q : Option D) (ρ : Env) : evs c (.nil) (q :: ρ) = .ok [] (q :: ρ) := by rw [evs]; try rfl
theorem eevs_cons (c : Ctx) (e : PX) (es : PXs) (q : Option D) (ρ : Env) : evs c (.cons e es) (q :: ρ) = (mkOpd e (ev c e) (q :: ρ)).bind fun x ρ => (evs c es ρ).bind fun xs ρ => .ok (x :: xs) ρ := by rw [evs]; try rfl
theorem eevO_no (c : Ctx)  (q : Option D) (ρ : Env) : evO c (.no) (q :: ρ) = .ok none (q :: ρ) := by rw [evO]; try rfl
theorem eevO_so (c : Ctx) (e : PX) (q : Option D) (ρ : Env) : evO c (.so e) (q :: ρ) = (ev c e (q :: ρ)).bind fun d ρ => match d with
    | .int i => .ok (some i) ρ
    | _ => .stuck := by rw [evO]; try rfl
theorem eevT_tru (c : Ctx) (a : PX) (q : Option D) (ρ : Env) : evT c (.tru a) (q :: ρ) = (mkOpd a (ev c a) (q :: ρ)).bind fun x ρ => match x.get ρ with
    | some d => ofO (truD d) ρ
    | none => .stuck := by rw [evT]; try rfl
theorem eevT_nt (c : Ctx) (t : QT) (q : Option D) (ρ : Env) : evT c (.nt t) (q :: ρ) = (evT c t (q :: ρ)).bind fun b ρ => .ok (!b) ρ := by rw [evT]; try rfl
theorem eevT_an (c : Ctx) (a : QT) (b : QT) (q : Option D) (ρ : Env) : evT c (.an a b) (q :: ρ) = (evT c a (q :: ρ)).bind fun k ρ => if k then evT c b ρ else .ok false ρ := by rw [evT]; try rfl
theorem eevT_or (c : Ctx) (a : QT) (b : QT) (q : Option D) (ρ : Env) : evT c (.or a b) (q :: ρ) = (evT c a (q :: ρ)).bind fun k ρ => if k then .ok true ρ else evT c b ρ := by rw [evT]; try rfl
theorem eevL_ex (c : Ctx) (a : PX) (q : Option D) (ρ : Env) : evL c (.ex a) (q :: ρ) = (mkOpd a (ev c a) (q :: ρ)).bind fun x ρ => (shareO [x] ρ).bind fun ds ρ => ofO (walk1 ds) ρ := by rw [evL]; try rfl
theorem eevL_rng1 (c : Ctx) (es : PXs) (q : Option D) (ρ : Env) : evL c (.rng1 es) (q :: ρ) = (evs c es (q :: ρ)).bind fun xs ρ => opL rng1D xs ρ := by rw [evL]; try rfl
theorem eevL_rng2 (c : Ctx) (es : PXs) (q : Option D) (ρ : Env) : evL c (.rng2 es) (q :: ρ) = (evs c es (q :: ρ)).bind fun xs ρ => opL rng2D xs ρ := by rw [evL]; try rfl
theorem eevL_zip (c : Ctx) (es : PXs) (q : Option D) (ρ : Env) : evL c (.zip es) (q :: ρ) = (evs c es (q :: ρ)).bind fun xs ρ => (shareO xs ρ).bind fun ds ρ => ofO (zip2D ds) ρ := by rw [evL]; try rfl
theorem eex_set (c : Ctx) (tg : QG) (a : PX) (q : Option D) (ρ : Env) : ex c (.set tg a) (q :: ρ) = (ev c a (q :: ρ)).toS fun d ρ => match asg tg d ρ with
    | some ρ => .nx ρ
    | none => .stuck := by rw [ex]; try rfl
theorem eex_par (c : Ctx) (is : List Nat) (es : PXs) (q : Option D) (ρ : Env) : ex c (.par is es) (q :: ρ) = (evs c es (q :: ρ)).toS fun xs ρ => (shareO xs ρ).toS fun ds ρ => match setAll is ds ρ with
    | some ρ => .nx ρ
    | none => .stuck := by rw [ex]; try rfl
theorem eex_setI (c : Ctx) (o : PX) (i : PX) (a : PX) (q : Option D) (ρ : Env) : ex c (.setI o i a) (q :: ρ) = (ev c a (q :: ρ)).toS fun v ρ => (mkOpd o (ev c o) ρ).toS fun x ρ => (mkOpd i (ev c i) ρ).toS fun y ρ => setO x y v ρ := by rw [ex]; try rfl
theorem eex_app (c : Ctx) (o : PX) (a : PX) (q : Option D) (ρ : Env) : ex c (.app o a) (q :: ρ) = (mkOpd o (ev c o) (q :: ρ)).toS fun x ρ => if isLst x ρ then (ev c a ρ).toS fun v ρ => appO x v ρ else .stuck := by rw [ex]; try rfl
theorem eex_exp (c : Ctx) (a : PX) (q : Option D) (ρ : Env) : ex c (.exp a) (q :: ρ) = (ev c a (q :: ρ)).toS fun _ ρ => .nx ρ := by rw [ex]; try rfl
theorem eex_ifs (c : Ctx) (t : QT) (a : QSs) (b : QSs) (q : Option D) (ρ : Env) : ex c (.ifs t a b) (q :: ρ) = (evT c t (q :: ρ)).toS fun k ρ => if k then exs c a ρ else exs c b ρ := by rw [ex]; try rfl
theorem eex_fr (c : Ctx) (tg : QG) (it : QL) (b : QSs) (q : Option D) (ρ : Env) : ex c (.fr tg it b) (q :: ρ) = (evL c it (q :: ρ)).toS fun ds ρ => forL tg (exs c b) ds ρ := by rw [ex]; try rfl
theorem eex_ret (c : Ctx) (a : PX) (q : Option D) (ρ : Env) : ex c (.ret a) (q :: ρ) = match a with
    | .var i => (match ((q :: ρ)[i]?).join with
      | some d => .rt d ((q :: ρ).set i none)
      | none => .stuck)
    | _ => (ev c a (q :: ρ)).toS fun d ρ => .rt d ρ := by cases a <;> simp [ex] <;> rfl
theorem eex_retN (c : Ctx)  (q : Option D) (ρ : Env) : ex c (.retN) (q :: ρ) = .rt .non (q :: ρ) := by rw [ex]; try rfl
theorem eex_never (c : Ctx)  (q : Option D) (ρ : Env) : ex c (.never) (q :: ρ) = .stuck := by rw [ex]; try rfl
theorem eexs_nil (c : Ctx)  (q : Option D) (ρ : Env) : exs c (.nil) (q :: ρ) = .nx (q :: ρ) := by rw [exs]; try rfl
theorem eexs_cons (c : Ctx) (s : QS) (r : QSs) (q : Option D) (ρ : Env) : exs c (.cons s r) (q :: ρ) = (ex c s (q :: ρ)).seq (exs c r) := by rw [exs]; try rfl
/-! operands -/
theorem vmk_var (i : Nat) (f : Env → Out D) (q : Option D) (ρ : Env) : mkOpd (.var i) f (q :: ρ) = match ((q :: ρ)[i]?).join with
    | some _ => .ok (.slot i) (q :: ρ)
    | none => .stuck := rfl
theorem vmk_cst (d : D) (f : Env → Out D) (ρ : Env) : mkOpd (.cst d) f ρ = (f ρ).bind fun d ρ => .ok (.val d) ρ := rfl
theorem vmk_tupD (es : PXs) (f : Env → Out D) (ρ : Env) : mkOpd (.tupD es) f ρ = (f ρ).bind fun d ρ => .ok (.val d) ρ := rfl
theorem vmk_lstD (es : PXs) (f : Env → Out D) (ρ : Env) : mkOpd (.lstD es) f ρ = (f ρ).bind fun d ρ => .ok (.val d) ρ := rfl
theorem vmk_dic0 (f : Env → Out D) (ρ : Env) : mkOpd (.dic0) f ρ = (f ρ).bind fun d ρ => .ok (.val d) ρ := rfl
theorem vmk_bin (op : Operator) (a b : PX) (f : Env → Out D) (ρ : Env) : mkOpd (.bin op a b) f ρ = (f ρ).bind fun d ρ => .ok (.val d) ρ := rfl
theorem vmk_neg (a : PX) (f : Env → Out D) (ρ : Env) : mkOpd (.neg a) f ρ = (f ρ).bind fun d ρ => .ok (.val d) ρ := rfl
theorem vmk_cmp (op : CmpOp) (a b : PX) (f : Env → Out D) (ρ : Env) : mkOpd (.cmp op a b) f ρ = (f ρ).bind fun d ρ => .ok (.val d) ρ := rfl
theorem vmk_isN (ng : Bool) (a : PX) (f : Env → Out D) (ρ : Env) : mkOpd (.isN ng a) f ρ = (f ρ).bind fun d ρ => .ok (.val d) ρ := rfl
theorem vmk_chn (o1 o2 : CmpOp) (a b e : PX) (f : Env → Out D) (ρ : Env) : mkOpd (.chn o1 o2 a b e) f ρ = (f ρ).bind fun d ρ => .ok (.val d) ρ := rfl
theorem vmk_notE (a : PX) (f : Env → Out D) (ρ : Env) : mkOpd (.notE a) f ρ = (f ρ).bind fun d ρ => .ok (.val d) ρ := rfl
theorem vmk_andE (a b : PX) (f : Env → Out D) (ρ : Env) : mkOpd (.andE a b) f ρ = (f ρ).bind fun d ρ => .ok (.val d) ρ := rfl
theorem vmk_orE (a b : PX) (f : Env → Out D) (ρ : Env) : mkOpd (.orE a b) f ρ = (f ρ).bind fun d ρ => .ok (.val d) ρ := rfl
theorem vmk_ite (t : QT) (a b : PX) (f : Env → Out D) (ρ : Env) : mkOpd (.ite t a b) f ρ = (f ρ).bind fun d ρ => .ok (.val d) ρ := rfl
theorem vmk_sub (a i : PX) (f : Env → Out D) (ρ : Env) : mkOpd (.sub a i) f ρ = (f ρ).bind fun d ρ => .ok (.val d) ρ := rfl
theorem vmk_slc (a : PX) (lo hi : QO) (f : Env → Out D) (ρ : Env) : mkOpd (.slc a lo hi) f ρ = (f ρ).bind fun d ρ => .ok (.val d) ρ := rfl
theorem vmk_rev (a : PX) (f : Env → Out D) (ρ : Env) : mkOpd (.rev a) f ρ = (f ρ).bind fun d ρ => .ok (.val d) ρ := rfl
theorem vmk_call (g : Str) (es : PXs) (perm : List Nat) (f : Env → Out D) (ρ : Env) : mkOpd (.call g es perm) f ρ = (f ρ).bind fun d ρ => .ok (.val d) ρ := rfl
theorem vmk_bi (g : String) (es : PXs) (f : Env → Out D) (ρ : Env) : mkOpd (.bi g es) f ρ = (f ρ).bind fun d ρ => .ok (.val d) ρ := rfl
theorem vmk_isi (a : PX) (t : String) (f : Env → Out D) (ρ : Env) : mkOpd (.isi a t) f ρ = (f ρ).bind fun d ρ => .ok (.val d) ρ := rfl
theorem vmk_lc (own : List Nat) (tg : QG) (it : QL) (t : Option QT) (e : PX) (f : Env → Out D) (ρ : Env) : mkOpd (.lc own tg it t e) f ρ = (f ρ).bind fun d ρ => .ok (.val d) ρ := rfl
theorem vmk_dc (own : List Nat) (tg : QG) (it : QL) (t : Option QT) (k v : PX) (f : Env → Out D) (ρ : Env) : mkOpd (.dc own tg it t k v) f ρ = (f ρ).bind fun d ρ => .ok (.val d) ρ := rfl
theorem vmk_sortK (a : PX) (g : String) (f : Env → Out D) (ρ : Env) : mkOpd (.sortK a g) f ρ = (f ρ).bind fun d ρ => .ok (.val d) ρ := rfl
/-! control -/
theorem vbd_ok {α β : Type} (a : α) (r : Env) (k : α → Env → Out β) : (Out.ok a r).bind k = k a r := rfl
theorem vbd_st {α β : Type} (k : α → Env → Out β) : (Out.stuck : Out α).bind k = .stuck := rfl
theorem vts_ok {α : Type} (a : α) (r : Env) (k : α → Env → SOut) : (Out.ok a r).toS k = k a r := rfl
theorem vsq_nx (r : Env) (k : Env → SOut) : (SOut.nx r).seq k = k r := rfl
theorem vsq_rt (d : D) (r : Env) (k : Env → SOut) : (SOut.rt d r).seq k = .rt d r := rfl
theorem vnx_ok {α : Type} (a : α) (r : Env) : noX (Out.ok a r) = .ok a r := rfl
theorem voO_some {α : Type} (a : α) (r : Env) : ofO (some a) r = .ok a r := rfl
theorem vb1_bl (f : Bool → Out D) (b : Bool) : bl1 f (.bl b) = f b := rfl
theorem vgt_val (d : D) (r : Env) : (Opd.val d).get r = some d := rfl
theorem vgt_slot (i : Nat) (r : Env) : (Opd.slot i).get r = (r[i]?).join := rfl
theorem vgs_nil (r : Env) : getsO [] r = some [] := rfl
theorem vgs_cons (x : Opd) (xs : List Opd) (r : Env) : getsO (x :: xs) r = match x.get r, getsO xs r with
    | some d, some ds => some (d :: ds)
    | _, _ => none := rfl
theorem vrv_ (i : Nat) (q : Option D) (ρ : Env) : readV i (q :: ρ) = match ((q :: ρ)[i]?).join with
    | some d => if shd d then .ok d (q :: ρ) else .ok (share d) ((q :: ρ).set i (some (share d)))
    | none => .stuck := rfl
theorem vso_nil (ρ : Env) : shareO [] ρ = .ok [] ρ := rfl
theorem vso_val (d : D) (r : List Opd) (q : Option D) (ρ : Env) : shareO (.val d :: r) (q :: ρ) = (shareO r (q :: ρ)).bind fun ds ρ => .ok (share d :: ds) ρ := rfl
theorem vso_slot (i : Nat) (r : List Opd) (q : Option D) (ρ : Env) : shareO (.slot i :: r) (q :: ρ) = (readV i (q :: ρ)).bind fun d ρ => (shareO r ρ).bind fun ds ρ => .ok (d :: ds) ρ := rfl
theorem vo1_ (f : D → Option D) (x : Opd) (q : Option D) (ρ : Env) : op1 f x (q :: ρ) = match x.get (q :: ρ) with
    | some d => ofO (f d) (q :: ρ)
    | none => .stuck := rfl
theorem vo2_ (f : D → D → Option D) (x y : Opd) (q : Option D) (ρ : Env) : op2 f x y (q :: ρ) = match x.get (q :: ρ), y.get (q :: ρ) with
    | some d, some e => ofO (f d e) (q :: ρ)
    | _, _ => .stuck := rfl
theorem voN_ (f : List D → Option D) (xs : List Opd) (q : Option D) (ρ : Env) : opN f xs (q :: ρ) = match getsO xs (q :: ρ) with
    | some ds => ofO (f ds) (q :: ρ)
    | none => .stuck := rfl
theorem voL_ (f : List D → Option (List D)) (xs : List Opd) (q : Option D) (ρ : Env) : opL f xs (q :: ρ) = match getsO xs (q :: ρ) with
    | some ds => ofO (f ds) (q :: ρ)
    | none => .stuck := rfl
theorem vsu_ (x y : Opd) (q : Option D) (ρ : Env) : subO x y (q :: ρ) = match x.get (q :: ρ), y.get (q :: ρ) with
    | some a, some i => (match subD a i with
      | some d => if shd d then .ok d (q :: ρ) else .stuck
      | none => .stuck)
    | _, _ => .stuck := rfl
theorem vag_nm (i : Nat) (d : D) (ρ : Env) : asg (.nm i) d ρ = if i < ρ.length then some (ρ.set i (some d)) else none := rfl
theorem vag_tp (is : List Nat) (ds : List D) (ρ : Env) : asg (.tp is) (.tup ds) ρ = setAll is ds ρ := rfl
theorem vsa_nil (ρ : Env) : setAll [] [] ρ = some ρ := rfl
theorem vsa_cons (i : Nat) (is : List Nat) (d : D) (ds : List D) (ρ : Env) : setAll (i :: is) (d :: ds) ρ = if i < ρ.length then setAll is ds (ρ.set i (some d)) else none := rfl
theorem vwp_nil (ρ : Env) : wipeE ρ [] = ρ := rfl
theorem vwp_cons (ρ : Env) (v : Nat) (vs : List Nat) : wipeE ρ (v :: vs) = (wipeE ρ vs).set v none := rfl
theorem vbk_nil (ρ0 ρ : Env) : backE ρ0 [] ρ = ρ := rfl
theorem vbk_cons (ρ0 ρ : Env) (v : Nat) (vs : List Nat) : backE ρ0 (v :: vs) ρ = backE ρ0 vs (ρ.set v (ρ0[v]?.join)) := rfl
theorem var_nil (ρ : Env) : argsO [] [] ρ = .ok [] ρ := rfl
theorem var_val (ms : List Bool) (d : D) (r : List Opd) (q : Option D) (ρ : Env) : argsO (false :: ms) (.val d :: r) (q :: ρ) = (argsO ms r (q :: ρ)).bind fun ds ρ => .ok (share d :: ds) ρ := rfl
theorem var_slot (ms : List Bool) (i : Nat) (r : List Opd) (q : Option D) (ρ : Env) : argsO (false :: ms) (.slot i :: r) (q :: ρ) = (readV i (q :: ρ)).bind fun d ρ => (argsO ms r ρ).bind fun ds ρ => .ok (d :: ds) ρ := rfl
theorem var_mut (ms : List Bool) (i : Nat) (r : List Opd) (q : Option D) (ρ : Env) : argsO (true :: ms) (.slot i :: r) (q :: ρ) = match ((q :: ρ)[i]?).join with
      | some d => (argsO ms r ((q :: ρ).set i none)).bind fun ds ρ => .ok (d :: ds) ρ
      | none => .stuck := rfl
theorem vbo_nil (ρ : Env) : backO [] [] [] ρ = some ρ := rfl
theorem vbo_false (ms : List Bool) (x : Opd) (r : List Opd) (ds : List D) (ρ : Env) : backO (false :: ms) (x :: r) ds ρ = backO ms r ds ρ := rfl
theorem vbo_true (ms : List Bool) (i : Nat) (r : List Opd) (d : D) (ds : List D) (ρ : Env) : backO (true :: ms) (.slot i :: r) (d :: ds) ρ = backO ms r ds (ρ.set i (some d)) := rfl
theorem vpm_nil (xs : List Opd) : permO xs [] = some [] := rfl
theorem vpm_cons (xs : List Opd) (i : Nat) (r : List Nat) : permO xs (i :: r) = match xs[i]?, permO xs r with
    | some x, some y => some (x :: y)
    | _, _ => none := rfl
theorem vco_ (c : Ctx) (f : Str) (perm : List Nat) (xs : List Opd) (q : Option D) (ρ : Env) : callO c f perm xs (q :: ρ) = match c.sig f, permO xs perm with
  | some g, some xs => (argsO g.ms xs (q :: ρ)).bind fun ds ρ => match c.call f ds with
    | .ok d ms => (match backO g.ms xs ms ρ with
      | some ρ => .ok d ρ
      | none => .stuck)
    | .exc _ _ _ => .stuck
    | .stuck => .stuck
  | _, _ => .stuck := rfl
theorem vevTo_no (c : Ctx) : evTo c none = none := rfl
theorem vevTo_so (c : Ctx) (t : QT) : evTo c (some t) = some (evT c t) := rfl
theorem vsp_ (j : Nat) (y : Opd) (v : D) (q : Option D) (ρ : Env) : setO (.slot j) y v (q :: ρ) = (match ((q :: ρ)[j]?).join, y.get (q :: ρ) with
    | some (.lst true xs), some (.int i) => (match ixD xs.length i with
      | some n => if xs.all shd then .nx ((q :: ρ).set j (some (.lst true (xs.set n (share v))))) else .stuck
      | none => .stuck)
    | some (.dic true kvs), some k => if isKey k && (kvs.all fun p => isKey p.1 && shd p.2) && sizeOk (kvs.length + 1) then .nx ((q :: ρ).set j (some (.dic true (putD kvs k (share v))))) else .stuck
    | _, _ => .stuck) := rfl
theorem vil_ (x : Opd) (q : Option D) (ρ : Env) : isLst x (q :: ρ) = match x.get (q :: ρ) with
  | some (.lst _ _) => true
  | _ => false := rfl
theorem vap_ (j : Nat) (v : D) (q : Option D) (ρ : Env) : appO (.slot j) v (q :: ρ) = (match ((q :: ρ)[j]?).join with
    | some (.lst true xs) => if sizeOk (xs.length + 1) then .nx ((q :: ρ).set j (some (.lst true (xs ++ [share v])))) else .stuck
    | _ => .stuck) := rfl
theorem vou_nil (r : Env) : outsOf [] r = some [] := by cases r <;> rfl
theorem vou_false (ms : List Bool) (o : Option D) (r : Env) : outsOf (false :: ms) (o :: r) = outsOf ms r := rfl
theorem vou_true (ms : List Bool) (d : D) (r : Env) : outsOf (true :: ms) (some d :: r) = (outsOf ms r).map (d :: ·) := rfl
/-! data -/
theorem vsh_tup (l : List D) : shd (.tup l) = true := rfl
theorem vsh_int (i : Int) : shd (.int i) = true := rfl
theorem vsh_bl (b : Bool) : shd (.bl b) = true := rfl
theorem vsh_non : shd .non = true := rfl
theorem vsh_str (x : Str) : shd (.str x) = true := rfl
theorem vsh_frl (x : List Int) : shd (.frl x) = true := rfl
theorem vsh_lst (o : Bool) (x : List D) : shd (.lst o x) = !o := rfl
theorem vsh_dic (o : Bool) (x : List (D × D)) : shd (.dic o x) = !o := rfl
theorem vsr_tup (l : List D) : share (.tup l) = .tup l := by rw [share]; all_goals simp
theorem vsr_int (i : Int) : share (.int i) = .int i := by rw [share]; all_goals simp
theorem vsr_bl (b : Bool) : share (.bl b) = .bl b := by rw [share]; all_goals simp
theorem vsr_non : share .non = .non := by rw [share]; all_goals simp
theorem vsr_str (x : Str) : share (.str x) = .str x := by rw [share]; all_goals simp
theorem vsr_frl (x : List Int) : share (.frl x) = .frl x := by rw [share]; all_goals simp
theorem vsr_lstF (x : List D) : share (.lst false x) = .lst false x := by rw [share]; rfl
theorem vsr_lstT (x : List D) : share (.lst true x) = .lst false (shares x) := by rw [share]; rfl
theorem vsr_dicF (x : List (D × D)) : share (.dic false x) = .dic false x := by rw [share]; rfl
theorem vsr_dicT (x : List (D × D)) : share (.dic true x) = .dic false (shareK x) := by rw [share]; rfl
theorem shares_of : ∀ {l : List D}, (∀ d ∈ l, share d = d) → shares l = l
  | [], _ => by rw [shares]
  | d :: r, h => by rw [shares, h d (by simp), shares_of fun e he => h e (by simp [he])]
theorem vss_int (l : List Int) : shares (l.map .int) = l.map .int := shares_of fun d h => by obtain ⟨i, _, rfl⟩ := List.mem_map.mp h; exact vsr_int i
theorem vss_nil : shares [] = [] := by rw [shares]
theorem vss_cons (d : D) (l : List D) : shares (d :: l) = share d :: shares l := by rw [shares]
theorem vsz_ (n : Nat) (h : n ≤ 16777216) : sizeOk n = true := decide_eq_true h
theorem vbn_add (i j : Int) : binD .Add (.int i) (.int j) = some (.int (i + j)) := rfl
theorem vbn_sub (i j : Int) : binD .Sub (.int i) (.int j) = some (.int (i - j)) := rfl
theorem vbn_mul (i j : Int) : binD .Mult (.int i) (.int j) = if (-(2 ^ 64) < i ∧ i < 2 ^ 64) ∨ (-(2 ^ 64) < j ∧ j < 2 ^ 64) then some (.int (i * j)) else none := rfl
theorem vbn_pow (i j : Int) : binD .Pow (.int i) (.int j) = if 0 ≤ j ∧ (Builtin.Int.intBits i : Int) * j ≤ 2 ^ 27 then some (.int (i ^ j.toNat)) else none := rfl
theorem vbn_mod (i j : Int) : binD .Mod (.int i) (.int j) = if 0 < j then some (.int (i % j)) else none := rfl
theorem vbn_div (i j : Int) : binD .FloorDiv (.int i) (.int j) = if 0 < j ∧ j.natAbs.log2 < 9000 then some (.int (i / j)) else none := rfl
theorem vbn_tup (xs ys : List D) : binD .Add (.tup xs) (.tup ys) = if sizeOk (xs.length + ys.length) then some (.tup (xs ++ ys)) else none := rfl
theorem vbn_lst (o p : Bool) (xs ys : List D) : binD .Add (.lst o xs) (.lst p ys) = if xs.all shd && ys.all shd && sizeOk (xs.length + ys.length) then some (.lst true (xs ++ ys)) else none := rfl
theorem vcm_lt (i j : Int) : cmpD .Lt (.int i) (.int j) = some (decide (i < j)) := rfl
theorem vcm_le (i j : Int) : cmpD .LtE (.int i) (.int j) = some (decide (i ≤ j)) := rfl
theorem vcm_gt (i j : Int) : cmpD .Gt (.int i) (.int j) = some (decide (j < i)) := rfl
theorem vcm_ge (i j : Int) : cmpD .GtE (.int i) (.int j) = some (decide (j ≤ i)) := rfl
theorem vcm_eq (i j : Int) : cmpD .Eq (.int i) (.int j) = some (decide (i = j)) := rfl
theorem vcm_ne (i j : Int) : cmpD .NotEq (.int i) (.int j) = some (!decide (i = j)) := rfl
theorem vcm_eqB (i j : Bool) : cmpD .Eq (.bl i) (.bl j) = some (i == j) := by cases i <;> cases j <;> rfl
theorem vcm_neB (i j : Bool) : cmpD .NotEq (.bl i) (.bl j) = some (i != j) := by cases i <;> cases j <;> rfl
theorem vcm_in (x y : D) : cmpD .In x y = inD x y := by cases x <;> cases y <;> rfl
theorem vcm_notin (x y : D) : cmpD .NotIn x y = (inD x y).map (!·) := by cases x <;> cases y <;> rfl
theorem vcm_eqT (xs ys : List D) : cmpD .Eq (.tup xs) (.tup ys) = if okEq 60 (.tup xs) && okEq 60 (.tup ys) then some (eqD (.tup xs) (.tup ys)) else none := rfl
theorem vcm_neT (xs ys : List D) : cmpD .NotEq (.tup xs) (.tup ys) = if okEq 60 (.tup xs) && okEq 60 (.tup ys) then some (!eqD (.tup xs) (.tup ys)) else none := rfl
theorem vcm_eqL (o p : Bool) (xs ys : List D) : cmpD .Eq (.lst o xs) (.lst p ys) = if okEq 60 (.lst o xs) && okEq 60 (.lst p ys) then some (eqD (.lst o xs) (.lst p ys)) else none := rfl
theorem vcm_neL (o p : Bool) (xs ys : List D) : cmpD .NotEq (.lst o xs) (.lst p ys) = if okEq 60 (.lst o xs) && okEq 60 (.lst p ys) then some (!eqD (.lst o xs) (.lst p ys)) else none := rfl
theorem vtr_bl (b : Bool) : truD (.bl b) = some b := rfl
theorem vtr_int (i : Int) : truD (.int i) = some (i != 0) := rfl
theorem vtr_tup (l : List D) : truD (.tup l) = some (!l.isEmpty) := rfl
theorem vtr_lst (o : Bool) (l : List D) : truD (.lst o l) = some (!l.isEmpty) := rfl
theorem vtr_non : truD .non = some false := rfl
theorem vno_ (d : D) : notD d = (truD d).map fun b => .bl (!b) := rfl
theorem vng_ (i : Int) : negD (.int i) = some (.int (-i)) := rfl
theorem viN_non (b : Bool) : isNO b .non = some (.bl (!b)) := rfl
theorem viN_tup (b : Bool) (l : List D) : isNO b (.tup l) = some (.bl b) := rfl
theorem viN_int (b : Bool) (l : Int) : isNO b (.int l) = some (.bl b) := rfl
theorem viN_bl (b : Bool) (l : Bool) : isNO b (.bl l) = some (.bl b) := rfl
theorem viN_str (b : Bool) (l : Str) : isNO b (.str l) = some (.bl b) := rfl
theorem viN_lst (b o : Bool) (l : List D) : isNO b (.lst o l) = some (.bl b) := rfl
theorem viN_dic (b o : Bool) (l : List (D × D)) : isNO b (.dic o l) = some (.bl b) := rfl
theorem vii_ (d : D) (t : String) (h : ["int", "bool", "str", "tuple", "list", "dict"].contains t = true) : isiD d t = some (tyD d == t || (tyD d == "bool" && t == "int")) := if_pos h
theorem vii_int (d : D) : isiD d "int" = some (tyD d == "int" || (tyD d == "bool" && ("int" : String) == "int")) := if_pos rfl
theorem vii_bool (d : D) : isiD d "bool" = some (tyD d == "bool" || (tyD d == "bool" && ("bool" : String) == "int")) := if_pos rfl
theorem vii_str (d : D) : isiD d "str" = some (tyD d == "str" || (tyD d == "bool" && ("str" : String) == "int")) := if_pos rfl
theorem vii_tuple (d : D) : isiD d "tuple" = some (tyD d == "tuple" || (tyD d == "bool" && ("tuple" : String) == "int")) := if_pos rfl
theorem vii_list (d : D) : isiD d "list" = some (tyD d == "list" || (tyD d == "bool" && ("list" : String) == "int")) := if_pos rfl
theorem vii_dict (d : D) : isiD d "dict" = some (tyD d == "dict" || (tyD d == "bool" && ("dict" : String) == "int")) := if_pos rfl
theorem vty_non : tyD .non = "NoneType" := rfl
theorem vty_bl (b : Bool) : tyD (.bl b) = "bool" := rfl
theorem vty_int (b : Int) : tyD (.int b) = "int" := rfl
theorem vty_str (b : Str) : tyD (.str b) = "str" := rfl
theorem vty_tup (b : List D) : tyD (.tup b) = "tuple" := rfl
theorem vty_lst (o : Bool) (b : List D) : tyD (.lst o b) = "list" := rfl
theorem vty_frl (b : List Int) : tyD (.frl b) = "list" := rfl
theorem vty_dic (o : Bool) (b : List (D × D)) : tyD (.dic o b) = "dict" := rfl
theorem vbi_lenT (l : List D) : biD "len" [.tup l] = some (.int l.length) := rfl
theorem vbi_lenL (o : Bool) (l : List D) : biD "len" [.lst o l] = some (.int l.length) := rfl
theorem vbi_lenF (l : List Int) : biD "len" [.frl l] = some (.int l.length) := rfl
theorem vbi_lenD (o : Bool) (l : List (D × D)) : biD "len" [.dic o l] = some (.int l.length) := rfl
theorem vbi_abs (i : Int) : biD "abs" [.int i] = some (.int (if i < 0 then -i else i)) := rfl
theorem vbi_intI (i : Int) : biD "int" [.int i] = some (.int i) := rfl
theorem vbi_intB (b : Bool) : biD "int" [.bl b] = some (.int (b2I b)) := rfl
theorem vbi_max2 (i j : Int) : biD "max" [.int i, .int j] = some (.int (if j > i then j else i)) := rfl
theorem vbi_min2 (i j : Int) : biD "min" [.int i, .int j] = some (.int (if j < i then j else i)) := rfl
theorem vbi_maxL (o : Bool) (l : List D) : biD "max" [.lst o l] = if l.isEmpty then none else (intsOf l).map fun ns => .int (maxI ns) := rfl
theorem vbi_minL (o : Bool) (l : List D) : biD "min" [.lst o l] = if l.isEmpty then none else (intsOf l).map fun ns => .int (minI ns) := rfl
theorem vbi_sum (o : Bool) (l : List D) : biD "sum" [.lst o l] = (intsOf l).map fun ns => .int ns.sum := rfl
theorem vbi_all (o : Bool) (l : List D) : biD "all" [.lst o l] = (blsOf l).map fun bs => .bl (bs.all id) := rfl
theorem vbi_any (o : Bool) (l : List D) : biD "any" [.lst o l] = (blsOf l).map fun bs => .bl (bs.any id) := rfl
theorem vbi_listT (l : List D) : biD "list" [.tup l] = some (.lst true l) := rfl
theorem vbi_listL (o : Bool) (l : List D) : biD "list" [.lst o l] = if l.all shd then some (.lst true l) else none := rfl
theorem vbi_tupT (l : List D) : biD "tuple" [.tup l] = some (.tup l) := rfl
theorem vbi_tupL (o : Bool) (l : List D) : biD "tuple" [.lst o l] = if l.all shd then some (.tup l) else none := rfl
theorem vbi_sortL (o : Bool) (l : List D) : biD "sorted" [.lst o l] = (intsOf l).map fun ns => .lst true ((isort ns).map .int) := rfl
theorem vbi_sortD (o : Bool) (l : List (D × D)) : biD "sorted" [.dic o l] = if decide (l.length < 64) then (intsOf (l.map (·.1))).map fun ns => .lst true ((isort ns).map .int) else none := rfl
theorem ints_map : ∀ l : List Int, intsOf (l.map .int) = some l
  | [] => rfl
  | x :: r => by simp only [List.map, intsOf, ints_map r, Option.map]
theorem bls_map {α : Type} (f : α → Bool) : ∀ l : List α, blsOf (l.map fun x => .bl (f x)) = some (l.map f)
  | [] => rfl
  | x :: r => by simp only [List.map, blsOf, bls_map f r, Option.map]
theorem vwk_tup (l : List D) : walk1 [.tup l] = some l := rfl
theorem vwk_lst (o : Bool) (l : List D) : walk1 [.lst o l] = some l := rfl
theorem vr1_ (j : Int) : rng1D [.int j] = rngD 0 j := rfl
theorem vr2_ (i j : Int) : rng2D [.int i, .int j] = rngD i j := rfl
theorem vzp_tt (xs ys : List D) : zip2D [.tup xs, .tup ys] = some (zipD xs ys) := rfl
theorem vzp_ll (o p : Bool) (xs ys : List D) : zip2D [.lst o xs, .lst p ys] = some (zipD xs ys) := rfl
theorem vsb_tup (l : List D) (i : Int) : subD (.tup l) (.int i) = (ixD l.length i).bind fun j => l[j]? := rfl
theorem vsb_lst (o : Bool) (l : List D) (i : Int) : subD (.lst o l) (.int i) = (ixD l.length i).bind fun j => l[j]? := rfl
theorem vsb_frl (l : List Int) (i : Int) : subD (.frl l) (.int i) = ((ixD l.length i).bind fun j => l[j]?).map .int := rfl
theorem vsb_dic (o : Bool) (l : List (D × D)) (k : D) : subD (.dic o l) k = if isKey k then keyD l k else none := by cases k <;> rfl
theorem vsl_tup (l : List D) (lo hi : Option Int) : slcD (.tup l) lo hi = some (.tup (cutD l lo hi)) := rfl
theorem vsl_lst (o : Bool) (l : List D) (lo hi : Option Int) : slcD (.lst o l) lo hi = if l.all shd then some (.lst true (cutD l lo hi)) else none := rfl
theorem vrv_lst (o : Bool) (l : List D) : revD (.lst o l) = if l.all shd then some (.lst true l.reverse) else none := rfl
theorem vsk_abs (o : Bool) (l : List D) : sortKD "abs" (.lst o l) = (intsOf l).map fun ns => .lst true ((isortBy (fun i => if i < 0 then -i else i) ns).map .int) := by rw [sortKD]; exact if_pos rfl
theorem all_shd {α : Type} (f : α → D) (h : ∀ x, shd (f x) = true) : ∀ l : List α, (l.map f).all shd = true
  | [] => rfl
  | x :: r => by simp [h]
/-! environment -/
theorem vjn_s {α : Type} (x : Option α) : Option.join (some x) = x := by cases x <;> rfl
theorem vsg_ (k : Str → Option FnI) (f : Str → List D → COut) (g : Str) : Ctx.sig ⟨fun g => (k g).map (·.sig), f⟩ g = (k g).map (·.sig) := rfl
def cxT (tab : Str → Option FnI) (k : Nat) : Ctx := ⟨fun g => (tab g).map (·.sig), callK tab k⟩
theorem vcx_sg (tab : Str → Option FnI) (k : Nat) (f : Str) : (cxT tab k).sig f = (tab f).map (·.sig) := rfl
theorem vcx_cl (tab : Str → Option FnI) (k : Nat) (f : Str) (ds : List D) : (cxT tab k).call f ds = callK tab k f ds := rfl
theorem vck_ {tab : Str → Option FnI} {f : Str} {i : FnI} (h : tab f = some i) (k : Nat) (ds : List D) : callK tab (k + 1) f ds = runF (cxT tab k) i ds := by
  unfold callK; rw [h]; rfl
/-! loops -/
theorem lcL_map {own : List Nat} {tg : QG} {el : Env → Out D} {α : Type} (g f : α → D) {ρ : Env} : ∀ (l : List α) (acc : List D),
    (∀ x ∈ l, ∃ ρ1 ρ2, asg tg (g x) ρ = some ρ1 ∧ el ρ1 = .ok (f x) ρ2 ∧ wipeE ρ2 own = ρ) → lcL own tg none el (l.map g) acc ρ = .ok (acc ++ l.map f) ρ
  | [], acc, _ => by simp [lcL]
  | x :: r, acc, h => by
    obtain ⟨ρ1, ρ2, h1, h2, h3⟩ := h x (by simp)
    rw [List.map, lcL, h1]
    show (el ρ1).bind _ = _
    rw [h2]
    show lcL own tg none el (r.map g) (acc ++ [f x]) (wipeE ρ2 own) = _
    rw [h3, lcL_map g f r (acc ++ [f x]) fun y hy => h y (by simp [hy])]
    simp
theorem lcL_fil {own : List Nat} {tg : QG} {t : Env → Out Bool} {el : Env → Out D} {α : Type} (g f : α → D) (p : α → Bool) {ρ : Env} : ∀ (l : List α) (acc : List D),
    (∀ x ∈ l, ∃ ρ1 ρ2, asg tg (g x) ρ = some ρ1 ∧ t ρ1 = .ok (p x) ρ2 ∧ (p x = true → ∃ ρ3, el ρ2 = .ok (f x) ρ3 ∧ wipeE ρ3 own = ρ) ∧ (p x = false → wipeE ρ2 own = ρ)) →
    lcL own tg (some t) el (l.map g) acc ρ = .ok (acc ++ (l.filter p).map f) ρ
  | [], acc, _ => by simp [lcL]
  | x :: r, acc, h => by
    obtain ⟨ρ1, ρ2, h1, h2, h3, h4⟩ := h x (by simp)
    rw [List.map, lcL, h1]
    show (t ρ1).bind _ = _
    rw [h2]
    show (if p x then _ else _) = _
    cases hp : p x with
    | true =>
      obtain ⟨ρ3, k1, k2⟩ := h3 hp
      rw [if_pos rfl, k1]
      show lcL own tg (some t) el (r.map g) (acc ++ [f x]) (wipeE ρ3 own) = _
      rw [k2, lcL_fil g f p r (acc ++ [f x]) fun y hy => h y (by simp [hy])]
      simp [hp]
    | false =>
      rw [if_neg (by simp)]
      show lcL own tg (some t) el (r.map g) acc (wipeE ρ2 own) = _
      rw [h4 hp, lcL_fil g f p r acc fun y hy => h y (by simp [hy])]
      simp [hp]
theorem dcL_fil {own : List Nat} {tg : QG} {t : Env → Out Bool} {ek ev : Env → Out D} {α : Type} (g fk fv : α → D) (p : α → Bool) {ρ : Env} : ∀ (l : List α) (acc : List (D × D)),
    (∀ x ∈ l, ∃ ρ1 ρ2, asg tg (g x) ρ = some ρ1 ∧ t ρ1 = .ok (p x) ρ2 ∧ (p x = true → isKey (fk x) = true ∧ shd (fv x) = true ∧ ∃ ρ3 ρ4, ek ρ2 = .ok (fk x) ρ3 ∧ ev ρ3 = .ok (fv x) ρ4 ∧ wipeE ρ4 own = ρ) ∧ (p x = false → wipeE ρ2 own = ρ)) →
    dcL own tg (some t) ek ev (l.map g) acc ρ = .ok ((l.filter p).foldl (fun m x => putD m (fk x) (fv x)) acc) ρ
  | [], acc, _ => by simp [dcL]
  | x :: r, acc, h => by
    obtain ⟨ρ1, ρ2, h1, h2, h3, h4⟩ := h x (by simp)
    rw [List.map, dcL, h1]
    show (t ρ1).bind _ = _
    rw [h2]
    show (if p x then _ else _) = _
    cases hp : p x with
    | true =>
      obtain ⟨ik, sv, ρ3, ρ4, k1, k2, k3⟩ := h3 hp
      rw [if_pos rfl, k1]
      show (ev ρ3).bind _ = _
      rw [k2]
      show (if isKey (fk x) && shd (fv x) then _ else _) = _
      rw [ik, sv, if_pos (show (true && true) = true from rfl), k3, dcL_fil g fk fv p r _ fun y hy => h y (by simp [hy])]
      simp [hp]
    | false =>
      rw [if_neg (by simp)]
      show dcL own tg (some t) ek ev (r.map g) acc (wipeE ρ2 own) = _
      rw [h4 hp, dcL_fil g fk fv p r acc fun y hy => h y (by simp [hy])]
      simp [hp]
/-- a loop that keeps an invariant -/
theorem forL_inv {tg : QG} {body : Env → SOut} {α : Type} (g : α → D) (I : Env → Prop) : ∀ (l : List α) (ρ : Env), I ρ →
    (∀ x ∈ l, ∀ ρ, I ρ → ∃ ρ1 ρ2, asg tg (g x) ρ = some ρ1 ∧ body ρ1 = .nx ρ2 ∧ I ρ2) → ∃ ρ', forL tg body (l.map g) ρ = .nx ρ' ∧ I ρ'
  | [], ρ, h, _ => ⟨ρ, by simp [forL], h⟩
  | x :: r, ρ, h, k => by
    obtain ⟨ρ1, ρ2, h1, h2, h3⟩ := k x (by simp) ρ h
    obtain ⟨ρ', e, q⟩ := forL_inv g I r ρ2 h3 fun y hy => k y (by simp [hy])
    refine ⟨ρ', ?_, q⟩
    rw [List.map, forL, h1]
    show (match body ρ1 with | .nx ρ2 => _ | .ct ρ2 => _ | .bk ρ2 => _ | x => _) = _
    rw [h2]
    exact e
/-- a loop that folds a state -/
theorem forL_fold {tg : QG} {body : Env → SOut} {α σ : Type} (g : α → D) (f : σ → α → σ) (I : σ → Env → Prop) : ∀ (l : List α) (s : σ) (ρ : Env), I s ρ →
    (∀ x ∈ l, ∀ s ρ, I s ρ → ∃ ρ1 ρ2, asg tg (g x) ρ = some ρ1 ∧ body ρ1 = .nx ρ2 ∧ I (f s x) ρ2) → ∃ ρ', forL tg body (l.map g) ρ = .nx ρ' ∧ I (l.foldl f s) ρ'
  | [], s, ρ, h, _ => ⟨ρ, by simp [forL], h⟩
  | x :: r, s, ρ, h, k => by
    obtain ⟨ρ1, ρ2, h1, h2, h3⟩ := k x (by simp) s ρ h
    obtain ⟨ρ', e, q⟩ := forL_fold g f I r (f s x) ρ2 h3 fun y hy => k y (by simp [hy])
    refine ⟨ρ', ?_, q⟩
    rw [List.map, forL, h1]
    show (match body ρ1 with | .nx ρ2 => _ | .ct ρ2 => _ | .bk ρ2 => _ | x => _) = _
    rw [h2]
    exact e
/-- a loop whose state is told by what has been walked -/
theorem forL_pre {tg : QG} {body : Env → SOut} {α : Type} (g : α → D) (I : List α → Env → Prop) : ∀ (l pre : List α) (ρ : Env), I pre ρ →
    (∀ p x q, pre ++ l = p ++ x :: q → ∀ ρ, I p ρ → ∃ ρ1 ρ2, asg tg (g x) ρ = some ρ1 ∧ body ρ1 = .nx ρ2 ∧ I (p ++ [x]) ρ2) → ∃ ρ', forL tg body (l.map g) ρ = .nx ρ' ∧ I (pre ++ l) ρ'
  | [], pre, ρ, h, _ => ⟨ρ, by simp [forL], by simpa using h⟩
  | x :: r, pre, ρ, h, k => by
    obtain ⟨ρ1, ρ2, h1, h2, h3⟩ := k pre x r rfl ρ h
    obtain ⟨ρ', e, q⟩ := forL_pre g I r (pre ++ [x]) ρ2 h3 fun p y s hs => k p y s (by rw [← hs]; simp)
    refine ⟨ρ', ?_, by simpa using q⟩
    rw [List.map, forL, h1]
    show (match body ρ1 with | .nx ρ2 => _ | .ct ρ2 => _ | .bk ρ2 => _ | x => _) = _
    rw [h2]
    exact e
/-- a loop that looks for one: it goes on or returns -/
theorem forL_ret {tg : QG} {body : Env → SOut} {α : Type} (g : α → D) (p : α → Bool) (v : D) (I J : Env → Prop) : ∀ (l : List α) (ρ : Env), I ρ →
    (∀ x ∈ l, ∀ ρ, I ρ → ∃ ρ1, asg tg (g x) ρ = some ρ1 ∧ (p x = true → ∃ ρ2, body ρ1 = .nx ρ2 ∧ I ρ2) ∧ (p x = false → ∃ ρ2, body ρ1 = .rt v ρ2 ∧ J ρ2)) →
    (l.all p = true ∧ ∃ ρ', forL tg body (l.map g) ρ = .nx ρ' ∧ I ρ') ∨ (l.all p = false ∧ ∃ ρ', forL tg body (l.map g) ρ = .rt v ρ' ∧ J ρ')
  | [], ρ, h, _ => .inl ⟨rfl, ρ, by simp [forL], h⟩
  | x :: r, ρ, h, k => by
    obtain ⟨ρ1, h1, h2, h3⟩ := k x (by simp) ρ h
    cases hp : p x with
    | true =>
      obtain ⟨ρ2, e2, i2⟩ := h2 hp
      have e : forL tg body ((x :: r).map g) ρ = forL tg body (r.map g) ρ2 := by
        rw [List.map, forL, h1]
        show (match body ρ1 with | .nx ρ2 => _ | .ct ρ2 => _ | .bk ρ2 => _ | x => _) = _
        rw [e2]
      rw [e, List.all_cons, hp, Bool.true_and]
      exact forL_ret g p v I J r ρ2 i2 fun y hy => k y (by simp [hy])
    | false =>
      obtain ⟨ρ2, e2, j2⟩ := h3 hp
      refine .inr ⟨by rw [List.all_cons, hp]; rfl, ρ2, ?_, j2⟩
      rw [List.map, forL, h1]
      show (match body ρ1 with | .nx ρ2 => _ | .ct ρ2 => _ | .bk ρ2 => _ | x => _) = _
      rw [e2]
/-- a stateful list comprehension with a test: some of the items, in their sequence -/
theorem lcL_sub {own : List Nat} {tg : QG} {t : Env → Out Bool} {el : Env → Out D} {α : Type} (g f : α → D) (I : Nat → Env → Prop) (N : Nat) : ∀ (l : List α) (acc : List D) (c : Nat) (ρ : Env), c + l.length ≤ N → I c ρ →
    (∀ x ∈ l, ∀ c ρ, c < N → I c ρ → ∃ ρ1 ρ2 b, asg tg (g x) ρ = some ρ1 ∧ t ρ1 = .ok b ρ2 ∧ (b = true → ∃ ρ3, el ρ2 = .ok (f x) ρ3 ∧ I (c + 1) (wipeE ρ3 own)) ∧ (b = false → I (c + 1) (wipeE ρ2 own))) →
    ∃ (l' : List α) (ρ' : Env), lcL own tg (some t) el (l.map g) acc ρ = .ok (acc ++ l'.map f) ρ' ∧ List.Sublist l' l ∧ I (c + l.length) ρ'
  | [], acc, c, ρ, _, h, _ => ⟨[], ρ, by simp [lcL], List.Sublist.refl _, h⟩
  | x :: r, acc, c, ρ, hN, h, k => by
    simp only [List.length_cons] at hN
    obtain ⟨ρ1, ρ2, b, h1, h2, h3, h4⟩ := k x (by simp) c ρ (by omega) h
    have hc : c + (x :: r).length = c + 1 + r.length := by simp only [List.length_cons]; omega
    rw [hc]
    cases b with
    | true =>
      obtain ⟨ρ3, k1, k2⟩ := h3 rfl
      obtain ⟨l', ρ', e, s, q⟩ := lcL_sub g f I N r (acc ++ [f x]) (c + 1) _ (by omega) k2 fun y hy => k y (by simp [hy])
      refine ⟨x :: l', ρ', ?_, s.cons₂ x, q⟩
      rw [List.map, lcL, h1]
      show (t ρ1).bind _ = _
      rw [h2]
      show (el ρ2).bind _ = _
      rw [k1]
      refine e.trans ?_
      simp
    | false =>
      obtain ⟨l', ρ', e, s, q⟩ := lcL_sub g f I N r acc (c + 1) _ (by omega) (h4 rfl) fun y hy => k y (by simp [hy])
      refine ⟨l', ρ', ?_, s.cons x, q⟩
      rw [List.map, lcL, h1]
      show (t ρ1).bind _ = _
      rw [h2]
      exact e
/-- a stateful list comprehension: from each item one of the values that belong to it -/
theorem lcL_each {own : List Nat} {tg : QG} {el : Env → Out D} {α β : Type} (g : α → D) (f : β → D) (p : β → α) (I : Nat → Env → Prop) (N : Nat) : ∀ (l : List α) (acc : List D) (c : Nat) (ρ : Env), c + l.length ≤ N → I c ρ →
    (∀ x ∈ l, ∀ c ρ, c < N → I c ρ → ∃ ρ1 ρ2 y, asg tg (g x) ρ = some ρ1 ∧ el ρ1 = .ok (f y) ρ2 ∧ p y = x ∧ I (c + 1) (wipeE ρ2 own)) →
    ∃ (l' : List β) (ρ' : Env), lcL own tg none el (l.map g) acc ρ = .ok (acc ++ l'.map f) ρ' ∧ l'.map p = l ∧ I (c + l.length) ρ'
  | [], acc, c, ρ, _, h, _ => ⟨[], ρ, by simp [lcL], rfl, h⟩
  | x :: r, acc, c, ρ, hN, h, k => by
    simp only [List.length_cons] at hN
    obtain ⟨ρ1, ρ2, y, h1, h2, h3, h4⟩ := k x (by simp) c ρ (by omega) h
    have hc : c + (x :: r).length = c + 1 + r.length := by simp only [List.length_cons]; omega
    rw [hc]
    obtain ⟨l', ρ', e, s, q⟩ := lcL_each g f p I N r (acc ++ [f y]) (c + 1) _ (by omega) h4 fun z hz => k z (by simp [hz])
    refine ⟨y :: l', ρ', ?_, by rw [List.map, h3, s], q⟩
    rw [List.map, lcL, h1]
    show (el ρ1).bind _ = _
    rw [h2]
    refine e.trans ?_
    simp
/-! a call's end -/
def fin (ms : List Bool) (x : SOut) : COut :=
  match x with
  | .rt d ρ => (match outsOf ms ρ with
    | some ms => .ok d ms
    | none => .stuck)
  | .nx ρ => (match outsOf ms ρ with
    | some ms => .ok .non ms
    | none => .stuck)
  | .exc n x ρ => (match outsOf ms ρ with
    | some ms => .exc n x ms
    | none => .stuck)
  | _ => .stuck
theorem vfi_rt (ms : List Bool) (d : D) (ρ : Env) : fin ms (.rt d ρ) = match outsOf ms ρ with
    | some ms => .ok d ms
    | none => .stuck := rfl
theorem vfi_nx (ms : List Bool) (ρ : Env) : fin ms (.nx ρ) = match outsOf ms ρ with
    | some ms => .ok .non ms
    | none => .stuck := rfl
theorem vrun (c : Ctx) (g : Sig) (n : Nat) (b : QSs) (ds : List D) (h : ds.length = g.ps.length) : runF c ⟨g, n, b⟩ ds = fin g.ms (exs c b (ds.map some ++ List.replicate (n - ds.length) none)) := by
  unfold runF
  rw [if_pos h]
  unfold fin
  rfl
theorem vcall {tab : Str → Option FnI} {f : Str} {g : Sig} {n : Nat} {b : QSs} (h : tab f = some ⟨g, n, b⟩) (k : Nat) (ds : List D) (hl : ds.length = g.ps.length) : callK tab (k + 1) f ds = fin g.ms (exs (cxT tab k) b (ds.map some ++ List.replicate (n - ds.length) none)) :=
  (vck_ h k ds).trans (vrun _ _ _ _ _ hl)
end DE
namespace CL
open DE
/-! ### numbers and lists -/
/-- what abs says -/
def ab (x : Int) : Int := if x < 0 then -x else x
theorem ab_neg (x : Int) : ab (-x) = ab x := by unfold ab; split <;> split <;> omega
theorem ab_nn (x : Int) : 0 ≤ ab x := by unfold ab; split <;> omega
theorem ab_eq {x y : Int} (h : ab x = ab y) : x = y ∨ x = -y := by unfold ab at h; split at h <;> split at h <;> omega
theorem ab_idem (x : Int) : ab (ab x) = ab x := by have := ab_nn x; generalize ab x = y at *; unfold ab; split <;> omega

theorem mem_ins {x y : Int} : ∀ {l : List Int}, y ∈ ins x l ↔ y = x ∨ y ∈ l
  | [] => by simp [ins]
  | z :: r => by
    unfold ins
    split
    · simp
    · simp only [List.mem_cons, mem_ins (l := r)]
      constructor <;> (intro h; rcases h with h | h | h <;> simp [h])
theorem mem_isort {y : Int} : ∀ {l : List Int}, y ∈ isort l ↔ y ∈ l
  | [] => by simp [isort]
  | z :: r => by simp only [isort, mem_ins, mem_isort (l := r), List.mem_cons]
theorem sorted_ins {x : Int} : ∀ {l : List Int}, l.Pairwise (· < ·) → x ∉ l → (ins x l).Pairwise (· < ·)
  | [], _, _ => by simp [ins]
  | z :: r, h, hx => by
    have hz := List.pairwise_cons.mp h
    unfold ins
    split
    · rename_i hle
      refine List.pairwise_cons.mpr ⟨fun w hw => ?_, h⟩
      rcases List.mem_cons.mp hw with e | e
      · subst e
        have : x ≠ w := fun e => hx (by simp [e])
        omega
      · have := hz.1 w e
        omega
    · rename_i hle
      refine List.pairwise_cons.mpr ⟨fun w hw => ?_, sorted_ins hz.2 fun e => hx (by simp [e])⟩
      rcases mem_ins.mp hw with e | e
      · subst e; omega
      · exact hz.1 w e
theorem sorted_isort : ∀ {l : List Int}, l.Nodup → (isort l).Pairwise (· < ·)
  | [], _ => by simp [isort]
  | z :: r, h => by
    have hz := List.nodup_cons.mp h
    exact sorted_ins (sorted_isort hz.2) fun e => hz.1 (mem_isort.mp e)

theorem mem_insBy {f : Int → Int} {x y : Int} : ∀ {l : List Int}, y ∈ insBy f x l ↔ y = x ∨ y ∈ l
  | [] => by simp [insBy]
  | z :: r => by
    unfold insBy
    split
    · simp
    · simp only [List.mem_cons, mem_insBy (l := r)]
      constructor <;> (intro h; rcases h with h | h | h <;> simp [h])
theorem mem_isortBy {f : Int → Int} {y : Int} : ∀ {l : List Int}, y ∈ isortBy f l ↔ y ∈ l
  | [] => by simp [isortBy]
  | z :: r => by simp only [isortBy, mem_insBy, mem_isortBy (l := r), List.mem_cons]
theorem sorted_insBy {f : Int → Int} {x : Int} : ∀ {l : List Int}, l.Pairwise (f · < f ·) → (∀ y ∈ l, f x ≠ f y) → (insBy f x l).Pairwise (f · < f ·)
  | [], _, _ => by simp [insBy]
  | z :: r, h, hx => by
    have hz := List.pairwise_cons.mp h
    have hne := hx z (by simp)
    unfold insBy
    split
    · rename_i hle
      refine List.pairwise_cons.mpr ⟨fun w hw => ?_, h⟩
      rcases List.mem_cons.mp hw with e | e
      · subst e; omega
      · have := hz.1 w e
        omega
    · rename_i hle
      refine List.pairwise_cons.mpr ⟨fun w hw => ?_, sorted_insBy hz.2 fun y hy => hx y (by simp [hy])⟩
      rcases mem_insBy.mp hw with e | e
      · subst e; omega
      · exact hz.1 w e
theorem sorted_isortBy {f : Int → Int} : ∀ {l : List Int}, l.Pairwise (f · ≠ f ·) → (isortBy f l).Pairwise (f · < f ·)
  | [], _ => by simp [isortBy]
  | z :: r, h => by
    have hz := List.pairwise_cons.mp h
    exact sorted_insBy (sorted_isortBy hz.2) fun y hy => hz.1 y (mem_isortBy.mp hy)

theorem maxI_ge : ∀ {l : List Int} {x : Int}, x ∈ l → x ≤ maxI l
  | [a], x, h => by simp at h; simp [maxI, h]
  | a :: b :: r, x, h => by
    unfold maxI
    rcases List.mem_cons.mp h with e | e
    · subst e; omega
    · have := maxI_ge e
      omega
theorem maxI_mem : ∀ {l : List Int}, l ≠ [] → maxI l ∈ l
  | [a], _ => by simp [maxI]
  | a :: b :: r, _ => by
    unfold maxI
    have := maxI_mem (l := b :: r) (by simp)
    by_cases h : maxI (b :: r) ≤ a
    · rw [Int.max_eq_left h]; simp
    · rw [Int.max_eq_right (by omega)]; exact List.mem_cons_of_mem _ this

/-! ### clauses -/
/-- ascending variables -/
abbrev Asc (l : List Int) : Prop := l.Pairwise fun x y => ab x < ab y
structure Cl (n : Int) (l : List Int) : Prop where
  lit : ∀ x ∈ l, 0 < ab x ∧ ab x ≤ n
  asc : Asc l
def litB (n x : Int) : Bool := decide (0 < ab x) && decide (ab x ≤ n)
def ascB (l : List Int) : Bool := (l.zip l.tail).all fun p => decide (ab p.1 < ab p.2)
def clB (n : Int) (l : List Int) : Bool := l.all (litB n) && ascB l
theorem ascB_iff : ∀ {l : List Int}, ascB l = true ↔ Asc l
  | [] => by simp [ascB]
  | [a] => by simp [ascB]
  | a :: b :: r => by
    have ih := ascB_iff (l := b :: r)
    have e : ascB (a :: b :: r) = (decide (ab a < ab b) && ascB (b :: r)) := by simp [ascB]
    rw [e, Bool.and_eq_true, ih, decide_eq_true_eq, Asc, Asc, List.pairwise_cons (a := a)]
    constructor
    · rintro ⟨h, p⟩
      refine ⟨fun w hw => ?_, p⟩
      rcases List.mem_cons.mp hw with e | e
      · subst e; exact h
      · have := (List.pairwise_cons.mp p).1 w e
        omega
    · rintro ⟨h, p⟩
      exact ⟨h b (by simp), p⟩
theorem clB_iff {n : Int} {l : List Int} : clB n l = true ↔ Cl n l := by
  unfold clB
  rw [Bool.and_eq_true, ascB_iff, List.all_eq_true]
  constructor
  · rintro ⟨h, p⟩
    exact ⟨fun x hx => by have := h x hx; simpa [litB] using this, p⟩
  · rintro ⟨h, p⟩
    exact ⟨fun x hx => by have := h x hx; simpa [litB] using this, p⟩
theorem Asc.one {l : List Int} (h : Asc l) {x y : Int} (hx : x ∈ l) (hy : y ∈ l) (e : ab x = ab y) : x = y := by
  induction l with
  | nil => cases hx
  | cons a r ih =>
    have hp := List.pairwise_cons.mp h
    rcases List.mem_cons.mp hx with e1 | e1 <;> rcases List.mem_cons.mp hy with e2 | e2
    · rw [e1, e2]
    · have := hp.1 y e2; subst e1; omega
    · have := hp.1 x e1; subst e2; omega
    · exact ih hp.2 e1 e2
theorem Asc.same {l m : List Int} (h : Asc l) (k : Asc m) (e : ∀ x, x ∈ l ↔ x ∈ m) : l = m := by
  induction l generalizing m with
  | nil =>
    cases m with
    | nil => rfl
    | cons b s => exact absurd ((e b).mpr (by simp)) (by simp)
  | cons a r ih =>
    have hp := List.pairwise_cons.mp h
    cases m with
    | nil => exact absurd ((e a).mp (by simp)) (by simp)
    | cons b s =>
      have kp := List.pairwise_cons.mp k
      have hab : a = b := by
        rcases List.mem_cons.mp ((e a).mp (by simp)) with q | q
        · exact q
        · rcases List.mem_cons.mp ((e b).mpr (by simp)) with q' | q'
          · exact q'.symm
          · have := kp.1 a q; have := hp.1 b q'; omega
      subst hab
      refine congrArg (a :: ·) (ih hp.2 kp.2 fun x => ⟨fun hx => ?_, fun hx => ?_⟩)
      · rcases List.mem_cons.mp ((e x).mp (List.mem_cons_of_mem _ hx)) with q | q
        · have := hp.1 x hx; subst q; omega
        · exact q
      · rcases List.mem_cons.mp ((e x).mpr (List.mem_cons_of_mem _ hx)) with q | q
        · have := kp.1 x hx; subst q; omega
        · exact q

/-! ### dicts of variables -/
def putI (m : List (Int × Int)) (k v : Int) : List (Int × Int) :=
  if m.any (fun p => p.1 == k) then m.map (fun p => if p.1 == k then (p.1, v) else p) else m ++ [(k, v)]
def dicI (l : List Int) : List (Int × Int) := l.foldl (fun m x => putI m (ab x) x) []
def lookI (m : List (Int × Int)) (k : Int) : Option Int := (m.find? fun p => p.1 == k).map (·.2)
structure DInv (m : List (Int × Int)) (l : List Int) : Prop where
  val : ∀ p ∈ m, p.2 ∈ l ∧ ab p.2 = p.1
  has : ∀ x ∈ l, ∃ p ∈ m, p.1 = ab x
  nd : (m.map (·.1)).Nodup
theorem putI_inv {m : List (Int × Int)} {l : List Int} (h : DInv m l) (x : Int) : DInv (putI m (ab x) x) (l ++ [x]) := by
  unfold putI
  split
  · rename_i hany
    obtain ⟨q, hq, hqe⟩ := List.any_eq_true.mp hany
    have hqe : q.1 = ab x := by simpa using hqe
    refine ⟨fun p hp => ?_, fun y hy => ?_, ?_⟩
    · obtain ⟨p0, h0, rfl⟩ := List.mem_map.mp hp
      have := h.val p0 h0
      by_cases e : p0.1 == ab x
      · simp [e]; simp at e; exact e.symm
      · simp [e]; exact ⟨.inl this.1, this.2⟩
    · have key : ∃ p ∈ m, p.1 = ab y := by
        rcases List.mem_append.mp hy with e | e
        · exact h.has y e
        · simp at e; subst e; exact ⟨q, hq, hqe⟩
      obtain ⟨p, hp, e⟩ := key
      refine ⟨_, List.mem_map.mpr ⟨p, hp, rfl⟩, ?_⟩
      split <;> exact e
    · have : (m.map (fun p => if p.1 == ab x then (p.1, x) else p)).map (·.1) = m.map (·.1) := by
        rw [List.map_map]; refine List.map_congr_left fun p _ => ?_
        simp only [Function.comp]; split <;> rfl
      rw [this]; exact h.nd
  · rename_i hany
    have hany : ∀ p ∈ m, p.1 ≠ ab x := fun p hp e => hany (List.any_eq_true.mpr ⟨p, hp, by simpa using e⟩)
    refine ⟨fun p hp => ?_, fun y hy => ?_, ?_⟩
    · rcases List.mem_append.mp hp with e | e
      · have := h.val p e; exact ⟨List.mem_append_left _ this.1, this.2⟩
      · simp at e; subst e; simp
    · rcases List.mem_append.mp hy with e | e
      · obtain ⟨p, hp, q⟩ := h.has y e; exact ⟨p, List.mem_append_left _ hp, q⟩
      · simp at e; subst e; exact ⟨_, List.mem_append_right _ (List.mem_singleton.mpr rfl), rfl⟩
    · rw [List.map_append, List.nodup_append]
      refine ⟨h.nd, by simp, fun a ha b hb => ?_⟩
      simp at hb; subst hb
      obtain ⟨p, hp, rfl⟩ := List.mem_map.mp ha
      exact hany p hp
theorem fold_inv : ∀ (l : List Int) {m : List (Int × Int)} {l0 : List Int}, DInv m l0 → DInv (l.foldl (fun m x => putI m (ab x) x) m) (l0 ++ l)
  | [], _, _, h => by simpa using h
  | x :: r, m, l0, h => by
    have := fold_inv r (putI_inv h x)
    simpa using this
theorem dicI_inv (l : List Int) : DInv (dicI l) l := by
  have := fold_inv l (m := []) (l0 := []) ⟨by simp, by simp, by simp⟩
  simpa [dicI] using this
theorem lookI_some {m : List (Int × Int)} {l : List Int} (h : DInv m l) {k : Int} (hk : k ∈ m.map (·.1)) : ∃ v, lookI m k = some v ∧ v ∈ l ∧ ab v = k := by
  obtain ⟨p, hp, e⟩ := List.mem_map.mp hk
  unfold lookI
  cases hf : m.find? (fun p => p.1 == k) with
  | none => exact absurd e (by have := List.find?_eq_none.mp hf p hp; simpa using this)
  | some q =>
    have h1 := List.find?_some hf
    have h2 := List.mem_of_find?_eq_some hf
    have := h.val q h2
    exact ⟨q.2, rfl, this.1, by rw [this.2]; simpa using h1⟩
/-- the clause of literals: by variables ascending -/
def res (l : List Int) : List Int := (isort ((dicI l).map (·.1))).map fun k => (lookI (dicI l) k).getD 0
theorem res_asc (l : List Int) : Asc (res l) := by
  have I := dicI_inv l
  unfold res
  rw [Asc, List.pairwise_map]
  refine (sorted_isort I.nd).imp_of_mem fun {a b} ha hb hab => ?_
  obtain ⟨v, e, _, q⟩ := lookI_some I (mem_isort.mp ha)
  obtain ⟨w, e', _, q'⟩ := lookI_some I (mem_isort.mp hb)
  rw [e, e']; simp [q, q', hab]
theorem res_sub {l : List Int} {x : Int} (h : x ∈ res l) : x ∈ l := by
  obtain ⟨k, hk, rfl⟩ := List.mem_map.mp h
  obtain ⟨v, e, m, _⟩ := lookI_some (dicI_inv l) (mem_isort.mp hk)
  rw [e]; exact m
theorem res_mem {l : List Int} (u : ∀ x ∈ l, ∀ y ∈ l, ab x = ab y → x = y) {x : Int} : x ∈ res l ↔ x ∈ l := by
  refine ⟨res_sub, fun h => ?_⟩
  obtain ⟨p, hp, e⟩ := (dicI_inv l).has x h
  have hk : p.1 ∈ (dicI l).map (·.1) := List.mem_map.mpr ⟨p, hp, rfl⟩
  obtain ⟨v, e1, m, q⟩ := lookI_some (dicI_inv l) hk
  have : v = x := u v m x h (by rw [q, e])
  subst this
  exact List.mem_map.mpr ⟨p.1, mem_isort.mpr hk, by rw [e1]; rfl⟩

/-! ### resolution -/
def tn (a b : List Int) : List Int := a.filter fun x => b.contains (-x)
def oth (a b : List Int) (t : Int) : List Int := (a ++ b).filter fun x => !decide (ab x = ab t)
def made (a b : List Int) : Option (List Int) :=
  match tn a b with
  | [t] => some (res (oth a b t))
  | _ => none
theorem mem_tn {a b : List Int} {x : Int} : x ∈ tn a b ↔ x ∈ a ∧ -x ∈ b := by simp [tn]
theorem mem_oth {a b : List Int} {t x : Int} : x ∈ oth a b t ↔ (x ∈ a ∨ x ∈ b) ∧ ab x ≠ ab t := by simp [oth, or_and_right]
theorem tn_turn {a b : List Int} (ha : Asc a) (hb : Asc b) : tn b a = (tn a b).map (- ·) := by
  refine Asc.same (List.Pairwise.filter _ hb) ?_ fun x => ?_
  · rw [Asc, List.pairwise_map]
    exact (List.Pairwise.filter _ ha).imp fun {a b} h => by rw [ab_neg, ab_neg]; exact h
  · rw [mem_tn, List.mem_map]
    constructor
    · rintro ⟨h, k⟩
      exact ⟨-x, mem_tn.mpr ⟨k, by rwa [Int.neg_neg]⟩, Int.neg_neg x⟩
    · rintro ⟨y, h, rfl⟩
      have := mem_tn.mp h
      exact ⟨this.2, by rw [Int.neg_neg]; exact this.1⟩
theorem oth_one {a b : List Int} (ha : Asc a) (hb : Asc b) {t : Int} (h : tn a b = [t]) : ∀ x ∈ oth a b t, ∀ y ∈ oth a b t, ab x = ab y → x = y := by
  have key : ∀ x y, x ∈ a → y ∈ b → ab x ≠ ab t → ab x = ab y → x = y := by
    intro x y hx hy hn e
    rcases ab_eq e with q | q
    · exact q
    · have : x ∈ tn a b := mem_tn.mpr ⟨hx, by rw [q, Int.neg_neg]; exact hy⟩
      rw [h] at this; simp at this; subst this; exact absurd rfl hn
  intro x hx y hy e
  have hx := mem_oth.mp hx
  have hy := mem_oth.mp hy
  rcases hx.1 with p | p <;> rcases hy.1 with q | q
  · exact ha.one p q e
  · exact key x y p q hx.2 e
  · exact (key y x q p hy.2 e.symm).symm
  · exact hb.one p q e
theorem made_turn {a b : List Int} (ha : Asc a) (hb : Asc b) : made b a = made a b := by
  have e := tn_turn ha hb
  unfold made
  rw [e]
  cases h : tn a b with
  | nil => rfl
  | cons t r =>
    cases r with
    | cons _ _ => rfl
    | nil =>
      have hb1 : tn b a = [-t] := by rw [e, h]; rfl
      show some _ = some _
      refine congrArg some (Asc.same (res_asc _) (res_asc _) fun x => ?_)
      rw [res_mem (oth_one hb ha hb1), res_mem (oth_one ha hb h), mem_oth, mem_oth, ab_neg]
      constructor <;> (rintro ⟨h1, h2⟩; exact ⟨h1.symm, h2⟩)
theorem made_cl {n : Int} {a b c : List Int} (ha : Cl n a) (hb : Cl n b) (h : made a b = some c) : Cl n c := by
  unfold made at h
  split at h
  · cases h
    refine ⟨fun x hx => ?_, res_asc _⟩
    rcases (mem_oth.mp (res_sub hx)).1 with q | q
    · exact ha.lit x q
    · exact hb.lit x q
  · cases h
/-- it holds wherever both do -/
theorem made_sound {a b c : List Int} (ha : Asc a) (hb : Asc b) (T : Int → Prop) (hT : ∀ x ∈ a, T x → T (-x) → False) (h : made a b = some c) (h1 : ∃ x ∈ a, T x) (h2 : ∃ x ∈ b, T x) : ∃ x ∈ c, T x := by
  unfold made at h
  split at h
  · rename_i t ht
    cases h
    have htt : t ∈ tn a b := by rw [ht]; simp
    have htm := mem_tn.mp htt
    obtain ⟨x, hx, tx⟩ := h1
    obtain ⟨y, hy, ty⟩ := h2
    by_cases e : ab x = ab t
    · by_cases e' : ab y = ab t
      · have e1 := ha.one hx htm.1 e
        have e2 := hb.one hy htm.2 (by rw [ab_neg]; exact e')
        subst e1; subst e2
        exact (hT x hx tx ty).elim
      · exact ⟨y, (res_mem (oth_one ha hb ht)).mpr (mem_oth.mpr ⟨.inr hy, e'⟩), ty⟩
    · exact ⟨x, (res_mem (oth_one ha hb ht)).mpr (mem_oth.mpr ⟨.inl hx, e⟩), tx⟩
  · cases h
theorem Cl.filter {n : Int} {l : List Int} (h : Cl n l) (p : Int → Bool) : Cl n (l.filter p) :=
  ⟨fun x hx => h.lit x (List.mem_filter.mp hx).1, List.Pairwise.filter _ h.asc⟩
/-- a literal ahead, its variable nowhere else, sorted by variables -/
theorem Cl.sortBy {n : Int} {l : List Int} (h : Cl n l) {x : Int} (hx : 0 < ab x ∧ ab x ≤ n) : Cl n (isortBy ab (x :: l.filter fun y => !decide (ab y = ab x))) := by
  refine ⟨fun y hy => ?_, sorted_isortBy ?_⟩
  · rcases List.mem_cons.mp (mem_isortBy.mp hy) with e | e
    · subst e; exact hx
    · exact h.lit y (List.mem_filter.mp e).1
  · refine List.pairwise_cons.mpr ⟨fun y hy => ?_, ?_⟩
    · have := (List.mem_filter.mp hy).2
      have : ¬ ab y = ab x := by simpa using this
      exact fun e => this e.symm
    · exact (List.Pairwise.filter _ h.asc).imp fun {a b} q => by omega
theorem Cl.le {n m : Int} {l : List Int} (h : Cl n l) (k : ∀ x ∈ l, ab x ≤ m) : Cl m l := ⟨fun x hx => ⟨(h.lit x hx).1, k x hx⟩, h.asc⟩
end CL
namespace KLaw
open PySem PySem.Spec PyProof.Rows L2 DE
def n_is_integer : List Str := ["told"]
def g_is_integer : Sig := ⟨["told"], [false], [(1, [])]⟩
def s_is_integer : Stmt := PySem.Challenge.pw_wholetruths_k77_whole_clauses_resolved.main.body.getD 5 (.Pass ⟨0, 0, 0, 0⟩)
def n_is_literal : List Str := ["told", "many"]
def g_is_literal : Sig := ⟨["told", "many"], [false, false], [(2, [])]⟩
def s_is_literal : Stmt := PySem.Challenge.pw_wholetruths_k77_whole_clauses_resolved.main.body.getD 7 (.Pass ⟨0, 0, 0, 0⟩)
def n_is_clause_of : List Str := ["told", "many", "one", "other", "literal"]
def g_is_clause_of : Sig := ⟨["told", "many"], [false, false], [(2, [])]⟩
def s_is_clause_of : Stmt := PySem.Challenge.pw_wholetruths_k77_whole_clauses_resolved.main.body.getD 8 (.Pass ⟨0, 0, 0, 0⟩)
def n_made_of : List Str := ["one", "other", "turned", "left", "literal", "variable"]
def g_made_of : Sig := ⟨["one", "other"], [false, false], [(2, [])]⟩
def s_made_of : Stmt := PySem.Challenge.pw_wholetruths_k77_whole_clauses_resolved.main.body.getD 9 (.Pass ⟨0, 0, 0, 0⟩)
def n_check_many : List Str := ["many"]
def g_check_many : Sig := ⟨["many"], [false], [(1, [])]⟩
def s_check_many : Stmt := PySem.Challenge.pw_wholetruths_k77_whole_clauses_resolved.main.body.getD 11 (.Pass ⟨0, 0, 0, 0⟩)
def n_is_clause : List Str := ["many", "told"]
def g_is_clause : Sig := ⟨["many", "told"], [false, false], [(2, []), (0, ["told", "many"])]⟩
def s_is_clause : Stmt := PySem.Challenge.pw_wholetruths_k77_whole_clauses_resolved.main.body.getD 12 (.Pass ⟨0, 0, 0, 0⟩)
def n_check_any_clause : List Str := ["clause", "good", "literal"]
def g_check_any_clause : Sig := ⟨["clause"], [false], [(1, [])]⟩
def s_check_any_clause : Stmt := PySem.Challenge.pw_wholetruths_k77_whole_clauses_resolved.main.body.getD 13 (.Pass ⟨0, 0, 0, 0⟩)
def n_resolved : List Str := ["one", "other"]
def g_resolved : Sig := ⟨["one", "other"], [false, false], [(2, []), (0, ["other", "one"])]⟩
def s_resolved : Stmt := PySem.Challenge.pw_wholetruths_k77_whole_clauses_resolved.main.body.getD 14 (.Pass ⟨0, 0, 0, 0⟩)
def n__law_bag : List Str := ["script", "k", "cell"]
def g__law_bag : Sig := ⟨["script", "k"], [false, false], [(2, [])]⟩
def s__law_bag : Stmt := PySem.Challenge.pw_wholetruths_k77_whole_clauses_resolved.main.body.getD 16 (.Pass ⟨0, 0, 0, 0⟩)
def n__law_take : List Str := ["bag", "many", "mixed", "found"]
def g__law_take : Sig := ⟨["bag", "many"], [true, false], [(2, [])]⟩
def s__law_take : Stmt := PySem.Challenge.pw_wholetruths_k77_whole_clauses_resolved.main.body.getD 17 (.Pass ⟨0, 0, 0, 0⟩)
def n__law_same : List Str := ["told", "due", "k"]
def g__law_same : Sig := ⟨["told", "due"], [false, false], [(2, [])]⟩
def s__law_same : Stmt := PySem.Challenge.pw_wholetruths_k77_whole_clauses_resolved.main.body.getD 18 (.Pass ⟨0, 0, 0, 0⟩)
def n__law_rows : List Str := ["many", "found", "turn", "longer", "row"]
def g__law_rows : Sig := ⟨["many"], [false], [(1, [])]⟩
def s__law_rows : Stmt := PySem.Challenge.pw_wholetruths_k77_whole_clauses_resolved.main.body.getD 19 (.Pass ⟨0, 0, 0, 0⟩)
def n__law_clause : List Str := ["bag", "many", "most", "some", "variable"]
def g__law_clause : Sig := ⟨["bag", "many", "most"], [true, false, false], [(3, [])]⟩
def s__law_clause : Stmt := PySem.Challenge.pw_wholetruths_k77_whole_clauses_resolved.main.body.getD 20 (.Pass ⟨0, 0, 0, 0⟩)
def n__law_holds : List Str := ["clauses", "row", "clause", "literal"]
def g__law_holds : Sig := ⟨["clauses", "row"], [false, false], [(2, [])]⟩
def s__law_holds : Stmt := PySem.Challenge.pw_wholetruths_k77_whole_clauses_resolved.main.body.getD 21 (.Pass ⟨0, 0, 0, 0⟩)
def n__law_made : List Str := ["one", "other", "turned", "found", "literal", "variable"]
def g__law_made : Sig := ⟨["one", "other"], [false, false], [(2, [])]⟩
def s__law_made : Stmt := PySem.Challenge.pw_wholetruths_k77_whole_clauses_resolved.main.body.getD 22 (.Pass ⟨0, 0, 0, 0⟩)
def n__law_follows_right : List Str := ["one", "other", "made", "row", "both"]
def g__law_follows_right : Sig := ⟨["one", "other", "made"], [false, false, false], [(3, [])]⟩
def s__law_follows_right : Stmt := PySem.Challenge.pw_wholetruths_k77_whole_clauses_resolved.main.body.getD 23 (.Pass ⟨0, 0, 0, 0⟩)
def n__law_odd : List Str := ["bag", "clause", "odd"]
def g__law_odd : Sig := ⟨["bag", "clause"], [true, false], [(2, [])]⟩
def s__law_odd : Stmt := PySem.Challenge.pw_wholetruths_k77_whole_clauses_resolved.main.body.getD 24 (.Pass ⟨0, 0, 0, 0⟩)
def n_law : List Str := ["script", "asked", "k", "bag", "turn", "one", "other", "due", "few", "left", "literal"]
def g_law : Sig := ⟨["script"], [false], []⟩
def s_law : Stmt := PySem.Challenge.pw_wholetruths_k77_whole_clauses_resolved.main.body.getD 25 (.Pass ⟨0, 0, 0, 0⟩)
def b_is_integer : QSs := (.cons (.ret (.andE (.isi (.var 0) "int") (.notE (.isi (.var 0) "bool")))) .nil)
def b_is_literal : QSs := (.cons (.ret (.andE (.call "is_integer" (.cons (.var 0) .nil) [0]) (.chn .Lt .LtE (.cst (.int 0)) (.bi "abs" (.cons (.var 0) .nil)) (.var 1)))) .nil)
def b_is_clause_of : QSs := (.cons (.ifs (.or (.nt (.tru (.isi (.var 0) "tuple"))) (.nt (.tru (.bi "all" (.cons (.lc [4] (.nm 4) (.ex (.var 0)) none (.call "is_literal" (.cons (.var 4) (.cons (.var 1) .nil)) [0, 1])) .nil))))) (.cons (.ret (.cst (.bl false))) .nil) .nil) (.cons (.ret (.bi "all" (.cons (.lc [2, 3] (.tp [2, 3]) (.zip (.cons (.var 0) (.cons (.slc (.var 0) (.so (.cst (.int 1))) .no) .nil))) none (.cmp .Lt (.bi "abs" (.cons (.var 2) .nil)) (.bi "abs" (.cons (.var 3) .nil)))) .nil))) .nil))
def b_made_of : QSs := (.cons (.set (.nm 2) (.lc [4] (.nm 4) (.ex (.var 0)) (some (.tru (.cmp .In (.neg (.var 4)) (.var 1)))) (.var 4))) (.cons (.ifs (.tru (.cmp .NotEq (.bi "len" (.cons (.var 2) .nil)) (.cst (.int 1)))) (.cons (.ret (.cst .non)) .nil) .nil) (.cons (.set (.nm 3) (.dc [4] (.nm 4) (.ex (.bin .Add (.var 0) (.var 1))) (some (.tru (.cmp .NotEq (.bi "abs" (.cons (.var 4) .nil)) (.bi "abs" (.cons (.sub (.var 2) (.cst (.int 0))) .nil))))) (.bi "abs" (.cons (.var 4) .nil)) (.var 4))) (.cons (.ret (.bi "tuple" (.cons (.lc [5] (.nm 5) (.ex (.bi "sorted" (.cons (.var 3) .nil))) none (.sub (.var 3) (.var 5))) .nil))) .nil))))
def b_check_many : QSs := (.cons (.ifs (.or (.nt (.tru (.call "is_integer" (.cons (.var 0) .nil) [0]))) (.tru (.cmp .Lt (.var 0) (.cst (.int 1))))) (.cons .never .nil) .nil) .nil)
def b_is_clause : QSs := (.cons (.exp (.call "check_many" (.cons (.var 0) .nil) [0])) (.cons (.ret (.call "is_clause_of" (.cons (.var 1) (.cons (.var 0) .nil)) [0, 1])) .nil))
def b_check_any_clause : QSs := (.cons (.set (.nm 1) (.andE (.isi (.var 0) "tuple") (.bi "all" (.cons (.lc [2] (.nm 2) (.ex (.var 0)) none (.call "is_integer" (.cons (.var 2) .nil) [0])) .nil)))) (.cons (.ifs (.or (.nt (.tru (.var 1))) (.nt (.tru (.call "is_clause_of" (.cons (.var 0) (.cons (.bi "max" (.cons (.bin .Add (.lstD (.cons (.cst (.int 0)) .nil)) (.lc [2] (.nm 2) (.ex (.var 0)) none (.bi "abs" (.cons (.var 2) .nil)))) .nil)) .nil)) [0, 1])))) (.cons .never .nil) .nil) .nil))
def b_resolved : QSs := (.cons (.exp (.call "check_any_clause" (.cons (.var 0) .nil) [0])) (.cons (.exp (.call "check_any_clause" (.cons (.var 1) .nil) [0])) (.cons (.ret (.call "made_of" (.cons (.var 0) (.cons (.var 1) .nil)) [0, 1])) .nil)))
def b__law_bag : QSs := (.cons (.set (.nm 2) (.ite (.tru (.cmp .Lt (.var 1) (.bi "len" (.cons (.var 0) .nil)))) (.bi "int" (.cons (.sub (.var 0) (.var 1)) .nil)) (.bin .Add (.bin .Mult (.var 1) (.cst (.int 8675309))) (.bin .Mult (.bi "len" (.cons (.var 0) .nil)) (.cst (.int 49979687)))))) (.cons (.ret (.lstD (.cons (.bi "max" (.cons (.cst (.int 0)) (.cons (.bin .Sub (.bi "abs" (.cons (.var 2) .nil)) (.bin .Pow (.cst (.int 10)) (.cst (.int 18)))) .nil))) (.cons (.bin .Mod (.bi "int" (.cons (.bin .Add (.bin .Add (.bin .Mult (.var 2) (.cst (.int 141650963))) (.bin .Mult (.var 1) (.cst (.int 104395301)))) (.cst (.int 2719))) .nil)) (.bin .Add (.bin .Pow (.cst (.int 10)) (.cst (.int 26))) (.cst (.int 67)))) (.cons (.cst (.int 0)) .nil))))) .nil))
def b__law_take : QSs := (.cons (.ifs (.tru (.cmp .Gt (.sub (.var 0) (.cst (.int 0))) (.cst (.int 0)))) (.cons (.set (.nm 3) (.bin .Mod (.bi "int" (.cons (.sub (.var 0) (.cst (.int 0))) .nil)) (.var 1))) (.cons (.setI (.var 0) (.cst (.int 0)) (.bin .FloorDiv (.sub (.var 0) (.cst (.int 0))) (.var 1))) (.cons (.ret (.var 3)) .nil))) .nil) (.cons (.setI (.var 0) (.cst (.int 2)) (.bin .Add (.sub (.var 0) (.cst (.int 2))) (.cst (.int 1)))) (.cons (.set (.nm 2) (.bin .Mod (.bi "int" (.cons (.bin .Pow (.bin .Add (.sub (.var 0) (.cst (.int 1))) (.bin .Mult (.cst (.int 86028157)) (.sub (.var 0) (.cst (.int 2))))) (.cst (.int 3))) .nil)) (.bin .Add (.bin .Pow (.cst (.int 10)) (.cst (.int 31))) (.cst (.int 33))))) (.cons (.set (.nm 2) (.bin .Mod (.bi "int" (.cons (.bin .Pow (.bin .Add (.var 2) (.cst (.int 898809763))) (.cst (.int 3))) .nil)) (.bin .Add (.bin .Pow (.cst (.int 10)) (.cst (.int 33))) (.cst (.int 33))))) (.cons (.ret (.bin .Mod (.bi "int" (.cons (.bin .FloorDiv (.var 2) (.bin .Pow (.cst (.int 10)) (.cst (.int 7)))) .nil)) (.var 1))) .nil)))))
def b__law_same : QSs := (.cons (.ifs (.tru (.isN false (.var 1))) (.cons (.ret (.isN false (.var 0))) .nil) .nil) (.cons (.ifs (.tru (.isi (.var 1) "bool")) (.cons (.ret (.andE (.isi (.var 0) "bool") (.cmp .Eq (.var 0) (.var 1)))) .nil) .nil) (.cons (.ifs (.tru (.isi (.var 1) "int")) (.cons (.ret (.andE (.isi (.var 0) "int") (.andE (.notE (.isi (.var 0) "bool")) (.cmp .Eq (.var 0) (.var 1))))) .nil) .nil) (.cons (.ifs (.tru (.isi (.var 1) "str")) (.cons (.ret (.andE (.isi (.var 0) "str") (.cmp .Eq (.var 0) (.var 1)))) .nil) .nil) (.cons (.ifs (.or (.tru (.cmp .NotEq (.isi (.var 1) "tuple") (.isi (.var 0) "tuple"))) (.tru (.cmp .NotEq (.isi (.var 1) "list") (.isi (.var 0) "list")))) (.cons (.ret (.cst (.bl false))) .nil) .nil) (.cons (.ret (.andE (.cmp .Eq (.bi "len" (.cons (.var 0) .nil)) (.bi "len" (.cons (.var 1) .nil))) (.bi "all" (.cons (.lc [2] (.nm 2) (.rng1 (.cons (.bi "len" (.cons (.var 1) .nil)) .nil)) none (.call "_law_same" (.cons (.sub (.var 0) (.var 2)) (.cons (.sub (.var 1) (.var 2)) .nil)) [0, 1])) .nil)))) .nil))))))
def b__law_rows : QSs := (.cons (.set (.nm 1) (.lstD (.cons (.tupD .nil) .nil))) (.cons (.fr (.nm 2) (.rng1 (.cons (.var 0) .nil)) (.cons (.set (.nm 3) (.lstD .nil)) (.cons (.fr (.nm 4) (.ex (.var 1)) (.cons (.set (.nm 3) (.bin .Add (.var 3) (.lstD (.cons (.bin .Add (.var 4) (.tupD (.cons (.cst (.int 0)) .nil))) (.cons (.bin .Add (.var 4) (.tupD (.cons (.cst (.int 1)) .nil))) .nil))))) .nil)) (.cons (.set (.nm 1) (.var 3)) .nil)))) (.cons (.ret (.var 1)) .nil)))
def b__law_clause : QSs := (.cons (.set (.nm 3) (.lc [4] (.nm 4) (.rng2 (.cons (.cst (.int 1)) (.cons (.bin .Add (.var 1) (.cst (.int 1))) .nil))) (some (.tru (.cmp .Lt (.call "_law_take" (.cons (.var 0) (.cons (.var 1) .nil)) [0, 1]) (.var 2)))) (.var 4))) (.cons (.ret (.bi "tuple" (.cons (.lc [4] (.nm 4) (.ex (.var 3)) none (.bin .Mult (.var 4) (.bin .Sub (.cst (.int 1)) (.bin .Mult (.cst (.int 2)) (.call "_law_take" (.cons (.var 0) (.cons (.cst (.int 2)) .nil)) [0, 1]))))) .nil))) .nil))
def b__law_holds : QSs := (.cons (.fr (.nm 2) (.ex (.var 0)) (.cons (.ifs (.tru (.cmp .Eq (.lc [3] (.nm 3) (.ex (.var 2)) (some (.tru (.cmp .Eq (.sub (.var 1) (.bin .Sub (.bi "abs" (.cons (.var 3) .nil)) (.cst (.int 1)))) (.bi "int" (.cons (.cmp .Gt (.var 3) (.cst (.int 0))) .nil))))) (.var 3)) (.lstD .nil))) (.cons (.ret (.cst (.bl false))) .nil) .nil) .nil)) (.cons (.ret (.cst (.bl true))) .nil))
def q__law_made_0 : QS := .set (.nm 2) (.lc [4] (.nm 4) (.ex (.var 0)) (some (.tru (.cmp .In (.bin .Sub (.cst (.int 0)) (.var 4)) (.var 1)))) (.var 4))
def q__law_made_1 : QS := .ifs (.tru (.cmp .NotEq (.bi "len" (.cons (.var 2) .nil)) (.cst (.int 1)))) (.cons (.ret (.cst .non)) .nil) .nil
def q__law_made_2 : QS := .set (.nm 3) .dic0
def q__law_made_3_0 : QS := .ifs (.tru (.cmp .NotEq (.bi "abs" (.cons (.var 4) .nil)) (.bi "abs" (.cons (.sub (.var 2) (.cst (.int 0))) .nil)))) (.cons (.setI (.var 3) (.bi "abs" (.cons (.var 4) .nil)) (.var 4)) .nil) .nil
def b__law_made_3 : QSs := (.cons q__law_made_3_0 .nil)
def q__law_made_3 : QS := .fr (.nm 4) (.ex (.bin .Add (.var 0) (.var 1))) b__law_made_3
def q__law_made_4 : QS := .ret (.bi "tuple" (.cons (.lc [5] (.nm 5) (.ex (.bi "sorted" (.cons (.var 3) .nil))) none (.sub (.var 3) (.var 5))) .nil))
def b__law_made : QSs := (.cons q__law_made_0 (.cons q__law_made_1 (.cons q__law_made_2 (.cons q__law_made_3 (.cons q__law_made_4 .nil)))))
def q__law_follows_right_0_0 : QS := .set (.nm 4) (.call "_law_holds" (.cons (.tupD (.cons (.var 0) (.cons (.var 1) .nil))) (.cons (.var 3) .nil)) [0, 1])
def q__law_follows_right_0_1 : QS := .ifs (.an (.tru (.var 4)) (.nt (.tru (.call "_law_holds" (.cons (.tupD (.cons (.var 2) .nil)) (.cons (.var 3) .nil)) [0, 1])))) (.cons (.ret (.cst (.bl false))) .nil) .nil
def b__law_follows_right_0 : QSs := (.cons q__law_follows_right_0_0 (.cons q__law_follows_right_0_1 .nil))
def q__law_follows_right_0 : QS := .fr (.nm 3) (.ex (.call "_law_rows" (.cons (.cst (.int 5)) .nil) [0])) b__law_follows_right_0
def q__law_follows_right_1 : QS := .ret (.cst (.bl true))
def b__law_follows_right : QSs := (.cons q__law_follows_right_0 (.cons q__law_follows_right_1 .nil))
def b__law_odd : QSs := (.cons (.set (.nm 2) (.lstD (.cons (.cst .non) (.cons (.cst (.int 7)) (.cons (.cst (.str "1")) (.cons (.bi "list" (.cons (.var 1) .nil)) (.cons (.bin .Add (.var 1) (.tupD (.cons (.cst (.int 6)) .nil))) (.cons (.tupD (.cons (.cst (.int 0)) .nil)) (.cons (.tupD (.cons (.cst (.int 1)) (.cons (.cst (.int 1)) .nil))) (.cons (.tupD (.cons (.cst (.int 1)) (.cons (.neg (.cst (.int 1))) .nil))) (.cons (.tupD (.cons (.cst (.int 2)) (.cons (.cst (.int 1)) .nil))) (.cons (.tupD (.cons (.neg (.cst (.int 6))) .nil)) (.cons (.tupD (.cons (.cst (.bl true)) .nil)) (.cons (.tupD (.cons (.cst (.str "1")) .nil)) (.cons .dic0 .nil))))))))))))))) (.cons (.ret (.sub (.bin .Add (.var 2) (.lstD (.cons (.bin .Add (.var 1) (.tupD (.cons (.cst .non) .nil))) (.cons (.tupD (.cons (.cst (.int 2)) (.cons (.neg (.cst (.int 1))) .nil))) .nil)))) (.call "_law_take" (.cons (.var 0) (.cons (.cst (.int 15)) .nil)) [0, 1]))) .nil))
def q_law_0 : QS := .set (.nm 1) (.lstD .nil)
def q_law_1_0 : QS := .set (.nm 3) (.call "_law_bag" (.cons (.var 0) (.cons (.var 2) .nil)) [0, 1])
def q_law_1_1_0 : QS := .set (.tp [5, 6]) (.tupD (.cons (.call "_law_clause" (.cons (.var 3) (.cons (.cst (.int 5)) (.cons (.cst (.int 3)) .nil))) [0, 1, 2]) (.cons (.call "_law_clause" (.cons (.var 3) (.cons (.cst (.int 5)) (.cons (.cst (.int 3)) .nil))) [0, 1, 2]) .nil)))
def q_law_1_1_1 : QS := .ifs (.an (.tru (.cmp .Gt (.var 4) (.cst (.int 7)))) (.tru (.cmp .NotEq (.var 5) (.tupD .nil)))) (.cons (.set (.nm 9) (.lc [10] (.nm 10) (.ex (.var 6)) (some (.tru (.cmp .NotEq (.bi "abs" (.cons (.var 10) .nil)) (.bi "abs" (.cons (.sub (.var 5) (.cst (.int 0))) .nil))))) (.var 10))) (.cons (.set (.nm 6) (.bi "tuple" (.cons (.sortK (.bin .Add (.lstD (.cons (.bin .Sub (.cst (.int 0)) (.sub (.var 5) (.cst (.int 0)))) .nil)) (.var 9)) "abs") .nil))) .nil)) .nil
def q_law_1_1_2 : QS := .set (.nm 7) (.call "_law_made" (.cons (.var 5) (.cons (.var 6) .nil)) [0, 1])
def q_law_1_1_3 : QS := .ifs (.nt (.tru (.call "_law_same" (.cons (.lstD (.cons (.call "resolved" (.cons (.var 5) (.cons (.var 6) .nil)) [0, 1]) (.cons (.call "resolved" (.cons (.var 5) (.cons (.var 6) .nil)) [1, 0]) .nil))) (.cons (.lstD (.cons (.var 7) (.cons (.var 7) .nil))) .nil)) [0, 1]))) (.cons (.ret (.cst (.bl false))) .nil) .nil
def q_law_1_1_4 : QS := .ifs (.an (.tru (.isN true (.var 7))) (.nt (.tru (.call "_law_follows_right" (.cons (.var 5) (.cons (.var 6) (.cons (.var 7) .nil))) [0, 1, 2])))) (.cons (.ret (.cst (.bl false))) .nil) .nil
def q_law_1_1_5 : QS := .ifs (.nt (.tru (.call "_law_same" (.cons (.lstD (.cons (.call "is_clause" (.cons (.cst (.int 5)) (.cons (.var 5) .nil)) [0, 1]) (.cons (.call "is_clause" (.cons (.call "_law_odd" (.cons (.var 3) (.cons (.var 5) .nil)) [0, 1]) (.cons (.cst (.int 5)) .nil)) [1, 0]) .nil))) (.cons (.lstD (.cons (.cst (.bl true)) (.cons (.cst (.bl false)) .nil))) .nil)) [0, 1]))) (.cons (.ret (.cst (.bl false))) .nil) .nil
def q_law_1_1_6 : QS := .set (.nm 8) (.bi "max" (.cons (.bin .Add (.lstD (.cons (.cst (.int 0)) .nil)) (.lc [10] (.nm 10) (.ex (.var 5)) none (.bi "abs" (.cons (.var 10) .nil)))) .nil))
def q_law_1_1_7 : QS := .ifs (.an (.tru (.cmp .Gt (.var 8) (.cst (.int 1)))) (.nt (.tru (.call "_law_same" (.cons (.lstD (.cons (.call "is_clause" (.cons (.var 8) (.cons (.var 5) .nil)) [0, 1]) (.cons (.call "is_clause" (.cons (.bin .Sub (.var 8) (.cst (.int 1))) (.cons (.var 5) .nil)) [0, 1]) .nil))) (.cons (.lstD (.cons (.cst (.bl true)) (.cons (.cst (.bl false)) .nil))) .nil)) [0, 1])))) (.cons (.ret (.cst (.bl false))) .nil) .nil
def q_law_1_1_8 : QS := .app (.var 1) (.tupD (.cons (.var 5) (.cons (.var 6) (.cons (.var 7) .nil))))
def b_law_1_1 : QSs := (.cons q_law_1_1_0 (.cons q_law_1_1_1 (.cons q_law_1_1_2 (.cons q_law_1_1_3 (.cons q_law_1_1_4 (.cons q_law_1_1_5 (.cons q_law_1_1_6 (.cons q_law_1_1_7 (.cons q_law_1_1_8 .nil)))))))))
def q_law_1_1 : QS := .fr (.nm 4) (.rng1 (.cons (.cst (.int 12)) .nil)) b_law_1_1
def b_law_1 : QSs := (.cons q_law_1_0 (.cons q_law_1_1 .nil))
def q_law_1 : QS := .fr (.nm 2) (.rng1 (.cons (.bi "max" (.cons (.cst (.int 1)) (.cons (.bi "min" (.cons (.cst (.int 3)) (.cons (.bi "len" (.cons (.var 0) .nil)) .nil))) .nil))) .nil)) b_law_1
def q_law_2_0 : QS := .ifs (.nt (.tru (.call "_law_same" (.cons (.call "resolved" (.cons (.var 5) (.cons (.var 6) .nil)) [0, 1]) (.cons (.var 7) .nil)) [0, 1]))) (.cons (.ret (.cst (.bl false))) .nil) .nil
def b_law_2 : QSs := (.cons q_law_2_0 .nil)
def q_law_2 : QS := .fr (.tp [5, 6, 7]) (.ex (.rev (.var 1))) b_law_2
def q_law_3 : QS := .ret (.cst (.bl true))
def b_law : QSs := (.cons q_law_0 (.cons q_law_1 (.cons q_law_2 (.cons q_law_3 .nil))))
def tabL : List (Str × FnI) := [("is_integer", ⟨g_is_integer, 1, b_is_integer⟩), ("is_literal", ⟨g_is_literal, 2, b_is_literal⟩), ("is_clause_of", ⟨g_is_clause_of, 5, b_is_clause_of⟩), ("made_of", ⟨g_made_of, 6, b_made_of⟩), ("check_many", ⟨g_check_many, 1, b_check_many⟩), ("is_clause", ⟨g_is_clause, 2, b_is_clause⟩), ("check_any_clause", ⟨g_check_any_clause, 3, b_check_any_clause⟩), ("resolved", ⟨g_resolved, 2, b_resolved⟩), ("_law_bag", ⟨g__law_bag, 3, b__law_bag⟩), ("_law_take", ⟨g__law_take, 4, b__law_take⟩), ("_law_same", ⟨g__law_same, 3, b__law_same⟩), ("_law_rows", ⟨g__law_rows, 5, b__law_rows⟩), ("_law_clause", ⟨g__law_clause, 5, b__law_clause⟩), ("_law_holds", ⟨g__law_holds, 4, b__law_holds⟩), ("_law_made", ⟨g__law_made, 6, b__law_made⟩), ("_law_follows_right", ⟨g__law_follows_right, 5, b__law_follows_right⟩), ("_law_odd", ⟨g__law_odd, 3, b__law_odd⟩), ("law", ⟨g_law, 11, b_law⟩)]
def tab (x : Str) : Option FnI := (tabL.find? fun e => decide (e.1 = x)).map (·.2)
theorem tr_is_integer : trSs ⟨n_is_integer, defScope s_is_integer, fun _ => true, fun g => (tab g).map (·.sig), fxOf g_is_integer.ms⟩ 60 (defBody s_is_integer) = some b_is_integer := by kernel_rfl
theorem sc_is_integer : FnScope n_is_integer g_is_integer.ps (defScope s_is_integer) := C8.fnScope_by (by decide +kernel)
theorem bd_is_integer {K : PySem.W.Frag} (kV doc pm : Value) (an : Option Addr) (cdv ct : Value) : ∀ n ks perm, g_is_integer.pats.contains (n, ks) = true → permOf n ks g_is_integer.ps 0 = some perm → BindP K (PySem.W.fnOf "is_integer" "is_integer" (defArgs s_is_integer) (defBody s_is_integer) (defScope s_is_integer) .none kV doc pm an cdv ct) g_is_integer.ps n ks perm := by
  intro n ks perm h hp
  replace h := List.mem_of_elem_eq_true h
  rcases List.mem_cons.mp h with e | h
  · cases e
    cases (show perm = [0] from (Option.some.inj (hp.symm.trans (by kernel_rfl))))
    intro s us ws h1 h2 _
    match us, ws, h1, h2 with
    | [u0], [], _, _ => exact .of_eq (by kernel_rfl)
  cases h
theorem tr_is_literal : trSs ⟨n_is_literal, defScope s_is_literal, fun _ => true, fun g => (tab g).map (·.sig), fxOf g_is_literal.ms⟩ 60 (defBody s_is_literal) = some b_is_literal := by kernel_rfl
theorem sc_is_literal : FnScope n_is_literal g_is_literal.ps (defScope s_is_literal) := C8.fnScope_by (by decide +kernel)
theorem bd_is_literal {K : PySem.W.Frag} (kV doc pm : Value) (an : Option Addr) (cdv ct : Value) : ∀ n ks perm, g_is_literal.pats.contains (n, ks) = true → permOf n ks g_is_literal.ps 0 = some perm → BindP K (PySem.W.fnOf "is_literal" "is_literal" (defArgs s_is_literal) (defBody s_is_literal) (defScope s_is_literal) .none kV doc pm an cdv ct) g_is_literal.ps n ks perm := by
  intro n ks perm h hp
  replace h := List.mem_of_elem_eq_true h
  rcases List.mem_cons.mp h with e | h
  · cases e
    cases (show perm = [0, 1] from (Option.some.inj (hp.symm.trans (by kernel_rfl))))
    intro s us ws h1 h2 _
    match us, ws, h1, h2 with
    | [u0, u1], [], _, _ => exact .of_eq (by kernel_rfl)
  cases h
theorem tr_is_clause_of : trSs ⟨n_is_clause_of, defScope s_is_clause_of, fun _ => true, fun g => (tab g).map (·.sig), fxOf g_is_clause_of.ms⟩ 60 (defBody s_is_clause_of) = some b_is_clause_of := by kernel_rfl
theorem sc_is_clause_of : FnScope n_is_clause_of g_is_clause_of.ps (defScope s_is_clause_of) := C8.fnScope_by (by decide +kernel)
theorem bd_is_clause_of {K : PySem.W.Frag} (kV doc pm : Value) (an : Option Addr) (cdv ct : Value) : ∀ n ks perm, g_is_clause_of.pats.contains (n, ks) = true → permOf n ks g_is_clause_of.ps 0 = some perm → BindP K (PySem.W.fnOf "is_clause_of" "is_clause_of" (defArgs s_is_clause_of) (defBody s_is_clause_of) (defScope s_is_clause_of) .none kV doc pm an cdv ct) g_is_clause_of.ps n ks perm := by
  intro n ks perm h hp
  replace h := List.mem_of_elem_eq_true h
  rcases List.mem_cons.mp h with e | h
  · cases e
    cases (show perm = [0, 1] from (Option.some.inj (hp.symm.trans (by kernel_rfl))))
    intro s us ws h1 h2 _
    match us, ws, h1, h2 with
    | [u0, u1], [], _, _ => exact .of_eq (by kernel_rfl)
  cases h
theorem tr_made_of : trSs ⟨n_made_of, defScope s_made_of, fun _ => true, fun g => (tab g).map (·.sig), fxOf g_made_of.ms⟩ 60 (defBody s_made_of) = some b_made_of := by kernel_rfl
theorem sc_made_of : FnScope n_made_of g_made_of.ps (defScope s_made_of) := C8.fnScope_by (by decide +kernel)
theorem bd_made_of {K : PySem.W.Frag} (kV doc pm : Value) (an : Option Addr) (cdv ct : Value) : ∀ n ks perm, g_made_of.pats.contains (n, ks) = true → permOf n ks g_made_of.ps 0 = some perm → BindP K (PySem.W.fnOf "made_of" "made_of" (defArgs s_made_of) (defBody s_made_of) (defScope s_made_of) .none kV doc pm an cdv ct) g_made_of.ps n ks perm := by
  intro n ks perm h hp
  replace h := List.mem_of_elem_eq_true h
  rcases List.mem_cons.mp h with e | h
  · cases e
    cases (show perm = [0, 1] from (Option.some.inj (hp.symm.trans (by kernel_rfl))))
    intro s us ws h1 h2 _
    match us, ws, h1, h2 with
    | [u0, u1], [], _, _ => exact .of_eq (by kernel_rfl)
  cases h
theorem tr_check_many : trSs ⟨n_check_many, defScope s_check_many, fun _ => true, fun g => (tab g).map (·.sig), fxOf g_check_many.ms⟩ 60 (defBody s_check_many) = some b_check_many := by kernel_rfl
theorem sc_check_many : FnScope n_check_many g_check_many.ps (defScope s_check_many) := C8.fnScope_by (by decide +kernel)
theorem bd_check_many {K : PySem.W.Frag} (kV doc pm : Value) (an : Option Addr) (cdv ct : Value) : ∀ n ks perm, g_check_many.pats.contains (n, ks) = true → permOf n ks g_check_many.ps 0 = some perm → BindP K (PySem.W.fnOf "check_many" "check_many" (defArgs s_check_many) (defBody s_check_many) (defScope s_check_many) .none kV doc pm an cdv ct) g_check_many.ps n ks perm := by
  intro n ks perm h hp
  replace h := List.mem_of_elem_eq_true h
  rcases List.mem_cons.mp h with e | h
  · cases e
    cases (show perm = [0] from (Option.some.inj (hp.symm.trans (by kernel_rfl))))
    intro s us ws h1 h2 _
    match us, ws, h1, h2 with
    | [u0], [], _, _ => exact .of_eq (by kernel_rfl)
  cases h
theorem tr_is_clause : trSs ⟨n_is_clause, defScope s_is_clause, fun _ => true, fun g => (tab g).map (·.sig), fxOf g_is_clause.ms⟩ 60 (defBody s_is_clause) = some b_is_clause := by kernel_rfl
theorem sc_is_clause : FnScope n_is_clause g_is_clause.ps (defScope s_is_clause) := C8.fnScope_by (by decide +kernel)
theorem bd_is_clause {K : PySem.W.Frag} (kV doc pm : Value) (an : Option Addr) (cdv ct : Value) : ∀ n ks perm, g_is_clause.pats.contains (n, ks) = true → permOf n ks g_is_clause.ps 0 = some perm → BindP K (PySem.W.fnOf "is_clause" "is_clause" (defArgs s_is_clause) (defBody s_is_clause) (defScope s_is_clause) .none kV doc pm an cdv ct) g_is_clause.ps n ks perm := by
  intro n ks perm h hp
  replace h := List.mem_of_elem_eq_true h
  rcases List.mem_cons.mp h with e | h
  · cases e
    cases (show perm = [0, 1] from (Option.some.inj (hp.symm.trans (by kernel_rfl))))
    intro s us ws h1 h2 _
    match us, ws, h1, h2 with
    | [u0, u1], [], _, _ => exact .of_eq (by kernel_rfl)
  rcases List.mem_cons.mp h with e | h
  · cases e
    cases (show perm = [1, 0] from (Option.some.inj (hp.symm.trans (by kernel_rfl))))
    intro s us ws h1 h2 _
    match us, ws, h1, h2 with
    | [], [w0, w1], _, _ => exact .of_eq (by kernel_rfl)
  cases h
theorem tr_check_any_clause : trSs ⟨n_check_any_clause, defScope s_check_any_clause, fun _ => true, fun g => (tab g).map (·.sig), fxOf g_check_any_clause.ms⟩ 60 (defBody s_check_any_clause) = some b_check_any_clause := by kernel_rfl
theorem sc_check_any_clause : FnScope n_check_any_clause g_check_any_clause.ps (defScope s_check_any_clause) := C8.fnScope_by (by decide +kernel)
theorem bd_check_any_clause {K : PySem.W.Frag} (kV doc pm : Value) (an : Option Addr) (cdv ct : Value) : ∀ n ks perm, g_check_any_clause.pats.contains (n, ks) = true → permOf n ks g_check_any_clause.ps 0 = some perm → BindP K (PySem.W.fnOf "check_any_clause" "check_any_clause" (defArgs s_check_any_clause) (defBody s_check_any_clause) (defScope s_check_any_clause) .none kV doc pm an cdv ct) g_check_any_clause.ps n ks perm := by
  intro n ks perm h hp
  replace h := List.mem_of_elem_eq_true h
  rcases List.mem_cons.mp h with e | h
  · cases e
    cases (show perm = [0] from (Option.some.inj (hp.symm.trans (by kernel_rfl))))
    intro s us ws h1 h2 _
    match us, ws, h1, h2 with
    | [u0], [], _, _ => exact .of_eq (by kernel_rfl)
  cases h
theorem tr_resolved : trSs ⟨n_resolved, defScope s_resolved, fun _ => true, fun g => (tab g).map (·.sig), fxOf g_resolved.ms⟩ 60 (defBody s_resolved) = some b_resolved := by kernel_rfl
theorem sc_resolved : FnScope n_resolved g_resolved.ps (defScope s_resolved) := C8.fnScope_by (by decide +kernel)
theorem bd_resolved {K : PySem.W.Frag} (kV doc pm : Value) (an : Option Addr) (cdv ct : Value) : ∀ n ks perm, g_resolved.pats.contains (n, ks) = true → permOf n ks g_resolved.ps 0 = some perm → BindP K (PySem.W.fnOf "resolved" "resolved" (defArgs s_resolved) (defBody s_resolved) (defScope s_resolved) .none kV doc pm an cdv ct) g_resolved.ps n ks perm := by
  intro n ks perm h hp
  replace h := List.mem_of_elem_eq_true h
  rcases List.mem_cons.mp h with e | h
  · cases e
    cases (show perm = [0, 1] from (Option.some.inj (hp.symm.trans (by kernel_rfl))))
    intro s us ws h1 h2 _
    match us, ws, h1, h2 with
    | [u0, u1], [], _, _ => exact .of_eq (by kernel_rfl)
  rcases List.mem_cons.mp h with e | h
  · cases e
    cases (show perm = [1, 0] from (Option.some.inj (hp.symm.trans (by kernel_rfl))))
    intro s us ws h1 h2 _
    match us, ws, h1, h2 with
    | [], [w0, w1], _, _ => exact .of_eq (by kernel_rfl)
  cases h
theorem tr__law_bag : trSs ⟨n__law_bag, defScope s__law_bag, fun _ => true, fun g => (tab g).map (·.sig), fxOf g__law_bag.ms⟩ 60 (defBody s__law_bag) = some b__law_bag := by kernel_rfl
theorem sc__law_bag : FnScope n__law_bag g__law_bag.ps (defScope s__law_bag) := C8.fnScope_by (by decide +kernel)
theorem bd__law_bag {K : PySem.W.Frag} (kV doc pm : Value) (an : Option Addr) (cdv ct : Value) : ∀ n ks perm, g__law_bag.pats.contains (n, ks) = true → permOf n ks g__law_bag.ps 0 = some perm → BindP K (PySem.W.fnOf "_law_bag" "_law_bag" (defArgs s__law_bag) (defBody s__law_bag) (defScope s__law_bag) .none kV doc pm an cdv ct) g__law_bag.ps n ks perm := by
  intro n ks perm h hp
  replace h := List.mem_of_elem_eq_true h
  rcases List.mem_cons.mp h with e | h
  · cases e
    cases (show perm = [0, 1] from (Option.some.inj (hp.symm.trans (by kernel_rfl))))
    intro s us ws h1 h2 _
    match us, ws, h1, h2 with
    | [u0, u1], [], _, _ => exact .of_eq (by kernel_rfl)
  cases h
theorem tr__law_take : trSs ⟨n__law_take, defScope s__law_take, fun _ => true, fun g => (tab g).map (·.sig), fxOf g__law_take.ms⟩ 60 (defBody s__law_take) = some b__law_take := by kernel_rfl
theorem sc__law_take : FnScope n__law_take g__law_take.ps (defScope s__law_take) := C8.fnScope_by (by decide +kernel)
theorem bd__law_take {K : PySem.W.Frag} (kV doc pm : Value) (an : Option Addr) (cdv ct : Value) : ∀ n ks perm, g__law_take.pats.contains (n, ks) = true → permOf n ks g__law_take.ps 0 = some perm → BindP K (PySem.W.fnOf "_law_take" "_law_take" (defArgs s__law_take) (defBody s__law_take) (defScope s__law_take) .none kV doc pm an cdv ct) g__law_take.ps n ks perm := by
  intro n ks perm h hp
  replace h := List.mem_of_elem_eq_true h
  rcases List.mem_cons.mp h with e | h
  · cases e
    cases (show perm = [0, 1] from (Option.some.inj (hp.symm.trans (by kernel_rfl))))
    intro s us ws h1 h2 _
    match us, ws, h1, h2 with
    | [u0, u1], [], _, _ => exact .of_eq (by kernel_rfl)
  cases h
theorem tr__law_same : trSs ⟨n__law_same, defScope s__law_same, fun _ => true, fun g => (tab g).map (·.sig), fxOf g__law_same.ms⟩ 60 (defBody s__law_same) = some b__law_same := by kernel_rfl
theorem sc__law_same : FnScope n__law_same g__law_same.ps (defScope s__law_same) := C8.fnScope_by (by decide +kernel)
theorem bd__law_same {K : PySem.W.Frag} (kV doc pm : Value) (an : Option Addr) (cdv ct : Value) : ∀ n ks perm, g__law_same.pats.contains (n, ks) = true → permOf n ks g__law_same.ps 0 = some perm → BindP K (PySem.W.fnOf "_law_same" "_law_same" (defArgs s__law_same) (defBody s__law_same) (defScope s__law_same) .none kV doc pm an cdv ct) g__law_same.ps n ks perm := by
  intro n ks perm h hp
  replace h := List.mem_of_elem_eq_true h
  rcases List.mem_cons.mp h with e | h
  · cases e
    cases (show perm = [0, 1] from (Option.some.inj (hp.symm.trans (by kernel_rfl))))
    intro s us ws h1 h2 _
    match us, ws, h1, h2 with
    | [u0, u1], [], _, _ => exact .of_eq (by kernel_rfl)
  cases h
theorem tr__law_rows : trSs ⟨n__law_rows, defScope s__law_rows, fun _ => true, fun g => (tab g).map (·.sig), fxOf g__law_rows.ms⟩ 60 (defBody s__law_rows) = some b__law_rows := by kernel_rfl
theorem sc__law_rows : FnScope n__law_rows g__law_rows.ps (defScope s__law_rows) := C8.fnScope_by (by decide +kernel)
theorem bd__law_rows {K : PySem.W.Frag} (kV doc pm : Value) (an : Option Addr) (cdv ct : Value) : ∀ n ks perm, g__law_rows.pats.contains (n, ks) = true → permOf n ks g__law_rows.ps 0 = some perm → BindP K (PySem.W.fnOf "_law_rows" "_law_rows" (defArgs s__law_rows) (defBody s__law_rows) (defScope s__law_rows) .none kV doc pm an cdv ct) g__law_rows.ps n ks perm := by
  intro n ks perm h hp
  replace h := List.mem_of_elem_eq_true h
  rcases List.mem_cons.mp h with e | h
  · cases e
    cases (show perm = [0] from (Option.some.inj (hp.symm.trans (by kernel_rfl))))
    intro s us ws h1 h2 _
    match us, ws, h1, h2 with
    | [u0], [], _, _ => exact .of_eq (by kernel_rfl)
  cases h
theorem tr__law_clause : trSs ⟨n__law_clause, defScope s__law_clause, fun _ => true, fun g => (tab g).map (·.sig), fxOf g__law_clause.ms⟩ 60 (defBody s__law_clause) = some b__law_clause := by kernel_rfl
theorem sc__law_clause : FnScope n__law_clause g__law_clause.ps (defScope s__law_clause) := C8.fnScope_by (by decide +kernel)
theorem bd__law_clause {K : PySem.W.Frag} (kV doc pm : Value) (an : Option Addr) (cdv ct : Value) : ∀ n ks perm, g__law_clause.pats.contains (n, ks) = true → permOf n ks g__law_clause.ps 0 = some perm → BindP K (PySem.W.fnOf "_law_clause" "_law_clause" (defArgs s__law_clause) (defBody s__law_clause) (defScope s__law_clause) .none kV doc pm an cdv ct) g__law_clause.ps n ks perm := by
  intro n ks perm h hp
  replace h := List.mem_of_elem_eq_true h
  rcases List.mem_cons.mp h with e | h
  · cases e
    cases (show perm = [0, 1, 2] from (Option.some.inj (hp.symm.trans (by kernel_rfl))))
    intro s us ws h1 h2 _
    match us, ws, h1, h2 with
    | [u0, u1, u2], [], _, _ => exact .of_eq (by kernel_rfl)
  cases h
theorem tr__law_holds : trSs ⟨n__law_holds, defScope s__law_holds, fun _ => true, fun g => (tab g).map (·.sig), fxOf g__law_holds.ms⟩ 60 (defBody s__law_holds) = some b__law_holds := by kernel_rfl
theorem sc__law_holds : FnScope n__law_holds g__law_holds.ps (defScope s__law_holds) := C8.fnScope_by (by decide +kernel)
theorem bd__law_holds {K : PySem.W.Frag} (kV doc pm : Value) (an : Option Addr) (cdv ct : Value) : ∀ n ks perm, g__law_holds.pats.contains (n, ks) = true → permOf n ks g__law_holds.ps 0 = some perm → BindP K (PySem.W.fnOf "_law_holds" "_law_holds" (defArgs s__law_holds) (defBody s__law_holds) (defScope s__law_holds) .none kV doc pm an cdv ct) g__law_holds.ps n ks perm := by
  intro n ks perm h hp
  replace h := List.mem_of_elem_eq_true h
  rcases List.mem_cons.mp h with e | h
  · cases e
    cases (show perm = [0, 1] from (Option.some.inj (hp.symm.trans (by kernel_rfl))))
    intro s us ws h1 h2 _
    match us, ws, h1, h2 with
    | [u0, u1], [], _, _ => exact .of_eq (by kernel_rfl)
  cases h
theorem tr__law_made : trSs ⟨n__law_made, defScope s__law_made, fun _ => true, fun g => (tab g).map (·.sig), fxOf g__law_made.ms⟩ 60 (defBody s__law_made) = some b__law_made := by kernel_rfl
theorem sc__law_made : FnScope n__law_made g__law_made.ps (defScope s__law_made) := C8.fnScope_by (by decide +kernel)
theorem bd__law_made {K : PySem.W.Frag} (kV doc pm : Value) (an : Option Addr) (cdv ct : Value) : ∀ n ks perm, g__law_made.pats.contains (n, ks) = true → permOf n ks g__law_made.ps 0 = some perm → BindP K (PySem.W.fnOf "_law_made" "_law_made" (defArgs s__law_made) (defBody s__law_made) (defScope s__law_made) .none kV doc pm an cdv ct) g__law_made.ps n ks perm := by
  intro n ks perm h hp
  replace h := List.mem_of_elem_eq_true h
  rcases List.mem_cons.mp h with e | h
  · cases e
    cases (show perm = [0, 1] from (Option.some.inj (hp.symm.trans (by kernel_rfl))))
    intro s us ws h1 h2 _
    match us, ws, h1, h2 with
    | [u0, u1], [], _, _ => exact .of_eq (by kernel_rfl)
  cases h
theorem tr__law_follows_right : trSs ⟨n__law_follows_right, defScope s__law_follows_right, fun _ => true, fun g => (tab g).map (·.sig), fxOf g__law_follows_right.ms⟩ 60 (defBody s__law_follows_right) = some b__law_follows_right := by kernel_rfl
theorem sc__law_follows_right : FnScope n__law_follows_right g__law_follows_right.ps (defScope s__law_follows_right) := C8.fnScope_by (by decide +kernel)
theorem bd__law_follows_right {K : PySem.W.Frag} (kV doc pm : Value) (an : Option Addr) (cdv ct : Value) : ∀ n ks perm, g__law_follows_right.pats.contains (n, ks) = true → permOf n ks g__law_follows_right.ps 0 = some perm → BindP K (PySem.W.fnOf "_law_follows_right" "_law_follows_right" (defArgs s__law_follows_right) (defBody s__law_follows_right) (defScope s__law_follows_right) .none kV doc pm an cdv ct) g__law_follows_right.ps n ks perm := by
  intro n ks perm h hp
  replace h := List.mem_of_elem_eq_true h
  rcases List.mem_cons.mp h with e | h
  · cases e
    cases (show perm = [0, 1, 2] from (Option.some.inj (hp.symm.trans (by kernel_rfl))))
    intro s us ws h1 h2 _
    match us, ws, h1, h2 with
    | [u0, u1, u2], [], _, _ => exact .of_eq (by kernel_rfl)
  cases h
theorem tr__law_odd : trSs ⟨n__law_odd, defScope s__law_odd, fun _ => true, fun g => (tab g).map (·.sig), fxOf g__law_odd.ms⟩ 60 (defBody s__law_odd) = some b__law_odd := by kernel_rfl
theorem sc__law_odd : FnScope n__law_odd g__law_odd.ps (defScope s__law_odd) := C8.fnScope_by (by decide +kernel)
theorem bd__law_odd {K : PySem.W.Frag} (kV doc pm : Value) (an : Option Addr) (cdv ct : Value) : ∀ n ks perm, g__law_odd.pats.contains (n, ks) = true → permOf n ks g__law_odd.ps 0 = some perm → BindP K (PySem.W.fnOf "_law_odd" "_law_odd" (defArgs s__law_odd) (defBody s__law_odd) (defScope s__law_odd) .none kV doc pm an cdv ct) g__law_odd.ps n ks perm := by
  intro n ks perm h hp
  replace h := List.mem_of_elem_eq_true h
  rcases List.mem_cons.mp h with e | h
  · cases e
    cases (show perm = [0, 1] from (Option.some.inj (hp.symm.trans (by kernel_rfl))))
    intro s us ws h1 h2 _
    match us, ws, h1, h2 with
    | [u0, u1], [], _, _ => exact .of_eq (by kernel_rfl)
  cases h
theorem tr_law : trSs ⟨n_law, defScope s_law, fun _ => true, fun g => (tab g).map (·.sig), fxOf g_law.ms⟩ 60 (defBody s_law) = some b_law := by kernel_rfl
theorem sc_law : FnScope n_law g_law.ps (defScope s_law) := C8.fnScope_by (by decide +kernel)
theorem bd_law {K : PySem.W.Frag} (kV doc pm : Value) (an : Option Addr) (cdv ct : Value) : ∀ n ks perm, g_law.pats.contains (n, ks) = true → permOf n ks g_law.ps 0 = some perm → BindP K (PySem.W.fnOf "law" "law" (defArgs s_law) (defBody s_law) (defScope s_law) .none kV doc pm an cdv ct) g_law.ps n ks perm := by
  intro n ks perm h hp
  replace h := List.mem_of_elem_eq_true h
  cases h
theorem tab_ok {K : PySem.W.Frag} {mg : Str → Option Value}
    (d_is_integer : DefAt K mg "is_integer" s_is_integer)
    (d_is_literal : DefAt K mg "is_literal" s_is_literal)
    (d_is_clause_of : DefAt K mg "is_clause_of" s_is_clause_of)
    (d_made_of : DefAt K mg "made_of" s_made_of)
    (d_check_many : DefAt K mg "check_many" s_check_many)
    (d_is_clause : DefAt K mg "is_clause" s_is_clause)
    (d_check_any_clause : DefAt K mg "check_any_clause" s_check_any_clause)
    (d_resolved : DefAt K mg "resolved" s_resolved)
    (d__law_bag : DefAt K mg "_law_bag" s__law_bag)
    (d__law_take : DefAt K mg "_law_take" s__law_take)
    (d__law_same : DefAt K mg "_law_same" s__law_same)
    (d__law_rows : DefAt K mg "_law_rows" s__law_rows)
    (d__law_clause : DefAt K mg "_law_clause" s__law_clause)
    (d__law_holds : DefAt K mg "_law_holds" s__law_holds)
    (d__law_made : DefAt K mg "_law_made" s__law_made)
    (d__law_follows_right : DefAt K mg "_law_follows_right" s__law_follows_right)
    (d__law_odd : DefAt K mg "_law_odd" s__law_odd)
    (d_law : DefAt K mg "law" s_law)
    : ∀ x i, tab x = some i → ∃ f fd, Stat K mg tab x i f fd := by
  intro x i h
  obtain ⟨e, he, rfl⟩ := map_some h
  have hm := List.mem_of_find?_eq_some he
  have hx : e.1 = x := by have q := List.find?_some he; exact of_decide_eq_true q
  subst hx
  clear h he
  rcases List.mem_cons.mp hm with e | hm
  · subst e; exact stat_mk d_is_integer sc_is_integer rfl tr_is_integer rfl bd_is_integer
  rcases List.mem_cons.mp hm with e | hm
  · subst e; exact stat_mk d_is_literal sc_is_literal rfl tr_is_literal rfl bd_is_literal
  rcases List.mem_cons.mp hm with e | hm
  · subst e; exact stat_mk d_is_clause_of sc_is_clause_of rfl tr_is_clause_of rfl bd_is_clause_of
  rcases List.mem_cons.mp hm with e | hm
  · subst e; exact stat_mk d_made_of sc_made_of rfl tr_made_of rfl bd_made_of
  rcases List.mem_cons.mp hm with e | hm
  · subst e; exact stat_mk d_check_many sc_check_many rfl tr_check_many rfl bd_check_many
  rcases List.mem_cons.mp hm with e | hm
  · subst e; exact stat_mk d_is_clause sc_is_clause rfl tr_is_clause rfl bd_is_clause
  rcases List.mem_cons.mp hm with e | hm
  · subst e; exact stat_mk d_check_any_clause sc_check_any_clause rfl tr_check_any_clause rfl bd_check_any_clause
  rcases List.mem_cons.mp hm with e | hm
  · subst e; exact stat_mk d_resolved sc_resolved rfl tr_resolved rfl bd_resolved
  rcases List.mem_cons.mp hm with e | hm
  · subst e; exact stat_mk d__law_bag sc__law_bag rfl tr__law_bag rfl bd__law_bag
  rcases List.mem_cons.mp hm with e | hm
  · subst e; exact stat_mk d__law_take sc__law_take rfl tr__law_take rfl bd__law_take
  rcases List.mem_cons.mp hm with e | hm
  · subst e; exact stat_mk d__law_same sc__law_same rfl tr__law_same rfl bd__law_same
  rcases List.mem_cons.mp hm with e | hm
  · subst e; exact stat_mk d__law_rows sc__law_rows rfl tr__law_rows rfl bd__law_rows
  rcases List.mem_cons.mp hm with e | hm
  · subst e; exact stat_mk d__law_clause sc__law_clause rfl tr__law_clause rfl bd__law_clause
  rcases List.mem_cons.mp hm with e | hm
  · subst e; exact stat_mk d__law_holds sc__law_holds rfl tr__law_holds rfl bd__law_holds
  rcases List.mem_cons.mp hm with e | hm
  · subst e; exact stat_mk d__law_made sc__law_made rfl tr__law_made rfl bd__law_made
  rcases List.mem_cons.mp hm with e | hm
  · subst e; exact stat_mk d__law_follows_right sc__law_follows_right rfl tr__law_follows_right rfl bd__law_follows_right
  rcases List.mem_cons.mp hm with e | hm
  · subst e; exact stat_mk d__law_odd sc__law_odd rfl tr__law_odd rfl bd__law_odd
  rcases List.mem_cons.mp hm with e | hm
  · subst e; exact stat_mk d_law sc_law rfl tr_law rfl bd_law
  cases hm
theorem head {K : PySem.W.Frag} {h : Heap} {mg : Str → Option Value} {P : Program} {w : World} (X : K.In h) (G : h.Ns mainGlobals mg) {fa : Addr} (hfa : mg "law" = some (.ref fa)) (hb : ∀ x ∈ bltNames, mg x = none)
    (d_is_integer : DefAt K mg "is_integer" s_is_integer)
    (d_is_literal : DefAt K mg "is_literal" s_is_literal)
    (d_is_clause_of : DefAt K mg "is_clause_of" s_is_clause_of)
    (d_made_of : DefAt K mg "made_of" s_made_of)
    (d_check_many : DefAt K mg "check_many" s_check_many)
    (d_is_clause : DefAt K mg "is_clause" s_is_clause)
    (d_check_any_clause : DefAt K mg "check_any_clause" s_check_any_clause)
    (d_resolved : DefAt K mg "resolved" s_resolved)
    (d__law_bag : DefAt K mg "_law_bag" s__law_bag)
    (d__law_take : DefAt K mg "_law_take" s__law_take)
    (d__law_same : DefAt K mg "_law_same" s__law_same)
    (d__law_rows : DefAt K mg "_law_rows" s__law_rows)
    (d__law_clause : DefAt K mg "_law_clause" s__law_clause)
    (d__law_holds : DefAt K mg "_law_holds" s__law_holds)
    (d__law_made : DefAt K mg "_law_made" s__law_made)
    (d__law_follows_right : DefAt K mg "_law_follows_right" s__law_follows_right)
    (d__law_odd : DefAt K mg "_law_odd" s__law_odd)
    (d_law : DefAt K mg "law" s_law)
    : ∃ fd : FuncData, (∀ (s : Shared) (u : Value), BindsTo s fd ⟨[u], []⟩ [("script", u)]) ∧ ∀ base : Heap, K.In base → base.Ns mainGlobals mg → FnOk P w K mg base (L2.CX P w) 20 fa fd ["script"] (spOf K (callK tab 20 "law") [false] 1) := by
  have hst := tab_ok d_is_integer d_is_literal d_is_clause_of d_made_of d_check_many d_is_clause d_check_any_clause d_resolved d__law_bag d__law_take d__law_same d__law_rows d__law_clause d__law_holds d__law_made d__law_follows_right d__law_odd d_law
  obtain ⟨f, fd, S, kV, doc, pm, an, cdv, ct, rfl⟩ := law_stat (tab := tab) (i := ⟨g_law, 11, b_law⟩) d_law sc_law rfl tr_law rfl bd_law (by kernel_rfl)
  have e := hfa.symm.trans S.m
  cases e
  exact ⟨_, fun s u => .of_eq (by kernel_rfl), fun base _ _ => fn_step hb hst 20 "law" _ fa _ (by kernel_rfl) S⟩
end KLaw
namespace KLaw
open PySem PySem.Spec PyProof.Rows L2 DE
theorem t_is_integer : tab "is_integer" = some ⟨g_is_integer, 1, b_is_integer⟩ := by kernel_rfl
theorem c_is_integer (k : Nat) (d0 : D) : callK tab (k + 1) "is_integer" [d0] = fin [false] (exs (cxT tab k) b_is_integer [some d0]) := vcall t_is_integer k _ rfl
theorem t_is_literal : tab "is_literal" = some ⟨g_is_literal, 2, b_is_literal⟩ := by kernel_rfl
theorem c_is_literal (k : Nat) (d0 d1 : D) : callK tab (k + 1) "is_literal" [d0, d1] = fin [false, false] (exs (cxT tab k) b_is_literal [some d0, some d1]) := vcall t_is_literal k _ rfl
theorem t_is_clause_of : tab "is_clause_of" = some ⟨g_is_clause_of, 5, b_is_clause_of⟩ := by kernel_rfl
theorem c_is_clause_of (k : Nat) (d0 d1 : D) : callK tab (k + 1) "is_clause_of" [d0, d1] = fin [false, false] (exs (cxT tab k) b_is_clause_of [some d0, some d1, none, none, none]) := vcall t_is_clause_of k _ rfl
theorem t_made_of : tab "made_of" = some ⟨g_made_of, 6, b_made_of⟩ := by kernel_rfl
theorem c_made_of (k : Nat) (d0 d1 : D) : callK tab (k + 1) "made_of" [d0, d1] = fin [false, false] (exs (cxT tab k) b_made_of [some d0, some d1, none, none, none, none]) := vcall t_made_of k _ rfl
theorem t_check_many : tab "check_many" = some ⟨g_check_many, 1, b_check_many⟩ := by kernel_rfl
theorem c_check_many (k : Nat) (d0 : D) : callK tab (k + 1) "check_many" [d0] = fin [false] (exs (cxT tab k) b_check_many [some d0]) := vcall t_check_many k _ rfl
theorem t_is_clause : tab "is_clause" = some ⟨g_is_clause, 2, b_is_clause⟩ := by kernel_rfl
theorem c_is_clause (k : Nat) (d0 d1 : D) : callK tab (k + 1) "is_clause" [d0, d1] = fin [false, false] (exs (cxT tab k) b_is_clause [some d0, some d1]) := vcall t_is_clause k _ rfl
theorem t_check_any_clause : tab "check_any_clause" = some ⟨g_check_any_clause, 3, b_check_any_clause⟩ := by kernel_rfl
theorem c_check_any_clause (k : Nat) (d0 : D) : callK tab (k + 1) "check_any_clause" [d0] = fin [false] (exs (cxT tab k) b_check_any_clause [some d0, none, none]) := vcall t_check_any_clause k _ rfl
theorem t_resolved : tab "resolved" = some ⟨g_resolved, 2, b_resolved⟩ := by kernel_rfl
theorem c_resolved (k : Nat) (d0 d1 : D) : callK tab (k + 1) "resolved" [d0, d1] = fin [false, false] (exs (cxT tab k) b_resolved [some d0, some d1]) := vcall t_resolved k _ rfl
theorem t__law_bag : tab "_law_bag" = some ⟨g__law_bag, 3, b__law_bag⟩ := by kernel_rfl
theorem c__law_bag (k : Nat) (d0 d1 : D) : callK tab (k + 1) "_law_bag" [d0, d1] = fin [false, false] (exs (cxT tab k) b__law_bag [some d0, some d1, none]) := vcall t__law_bag k _ rfl
theorem t__law_take : tab "_law_take" = some ⟨g__law_take, 4, b__law_take⟩ := by kernel_rfl
theorem c__law_take (k : Nat) (d0 d1 : D) : callK tab (k + 1) "_law_take" [d0, d1] = fin [true, false] (exs (cxT tab k) b__law_take [some d0, some d1, none, none]) := vcall t__law_take k _ rfl
theorem t__law_same : tab "_law_same" = some ⟨g__law_same, 3, b__law_same⟩ := by kernel_rfl
theorem c__law_same (k : Nat) (d0 d1 : D) : callK tab (k + 1) "_law_same" [d0, d1] = fin [false, false] (exs (cxT tab k) b__law_same [some d0, some d1, none]) := vcall t__law_same k _ rfl
theorem t__law_rows : tab "_law_rows" = some ⟨g__law_rows, 5, b__law_rows⟩ := by kernel_rfl
theorem c__law_rows (k : Nat) (d0 : D) : callK tab (k + 1) "_law_rows" [d0] = fin [false] (exs (cxT tab k) b__law_rows [some d0, none, none, none, none]) := vcall t__law_rows k _ rfl
theorem t__law_clause : tab "_law_clause" = some ⟨g__law_clause, 5, b__law_clause⟩ := by kernel_rfl
theorem c__law_clause (k : Nat) (d0 d1 d2 : D) : callK tab (k + 1) "_law_clause" [d0, d1, d2] = fin [true, false, false] (exs (cxT tab k) b__law_clause [some d0, some d1, some d2, none, none]) := vcall t__law_clause k _ rfl
theorem t__law_holds : tab "_law_holds" = some ⟨g__law_holds, 4, b__law_holds⟩ := by kernel_rfl
theorem c__law_holds (k : Nat) (d0 d1 : D) : callK tab (k + 1) "_law_holds" [d0, d1] = fin [false, false] (exs (cxT tab k) b__law_holds [some d0, some d1, none, none]) := vcall t__law_holds k _ rfl
theorem t__law_made : tab "_law_made" = some ⟨g__law_made, 6, b__law_made⟩ := by kernel_rfl
theorem c__law_made (k : Nat) (d0 d1 : D) : callK tab (k + 1) "_law_made" [d0, d1] = fin [false, false] (exs (cxT tab k) b__law_made [some d0, some d1, none, none, none, none]) := vcall t__law_made k _ rfl
theorem t__law_follows_right : tab "_law_follows_right" = some ⟨g__law_follows_right, 5, b__law_follows_right⟩ := by kernel_rfl
theorem c__law_follows_right (k : Nat) (d0 d1 d2 : D) : callK tab (k + 1) "_law_follows_right" [d0, d1, d2] = fin [false, false, false] (exs (cxT tab k) b__law_follows_right [some d0, some d1, some d2, none, none]) := vcall t__law_follows_right k _ rfl
theorem t__law_odd : tab "_law_odd" = some ⟨g__law_odd, 3, b__law_odd⟩ := by kernel_rfl
theorem c__law_odd (k : Nat) (d0 d1 : D) : callK tab (k + 1) "_law_odd" [d0, d1] = fin [true, false] (exs (cxT tab k) b__law_odd [some d0, some d1, none]) := vcall t__law_odd k _ rfl
theorem t_law : tab "law" = some ⟨g_law, 11, b_law⟩ := by kernel_rfl
theorem c_law (k : Nat) (d0 : D) : callK tab (k + 1) "law" [d0] = fin [false] (exs (cxT tab k) b_law [some d0, none, none, none, none, none, none, none, none, none, none]) := vcall t_law k _ rfl
/-- true ints -/
def isI : D → Bool
  | .int _ => true
  | _ => false
theorem is_integer_ok (k : Nat) (d : D) : callK tab (k + 1) "is_integer" [d] = .ok (.bl (isI d)) [] := by
  cases d <;> (simp only [c_is_integer, b_is_integer, eev_cst, eev_var, eev_tupD, eev_lstD, eev_dic0, eev_bin, eev_neg, eev_cmp, eev_isN, eev_chn, eev_notE, eev_andE, eev_orE, eev_ite, eev_sub, eev_slc, eev_rev, eev_call, eev_bi, eev_isi, eev_lc, eev_dc, eev_sortK, eevs_nil, eevs_cons, eevO_no, eevO_so, eevT_tru, eevT_nt, eevT_an, eevT_or, eevL_ex, eevL_rng1, eevL_rng2, eevL_zip, eex_set, eex_par, eex_setI, eex_app, eex_exp, eex_ifs, eex_fr, eex_ret, eex_retN, eex_never, eexs_nil, eexs_cons, vmk_var, vmk_cst, vmk_tupD, vmk_lstD, vmk_dic0, vmk_bin, vmk_neg, vmk_cmp, vmk_isN, vmk_chn, vmk_notE, vmk_andE, vmk_orE, vmk_ite, vmk_sub, vmk_slc, vmk_rev, vmk_call, vmk_bi, vmk_isi, vmk_lc, vmk_dc, vmk_sortK, vbd_ok, vbd_st, vts_ok, vsq_nx, vsq_rt, vnx_ok, voO_some, vb1_bl, vgt_val, vgt_slot, vgs_nil, vgs_cons, vrv_, vso_nil, vso_val, vso_slot, vo1_, vo2_, voN_, voL_, vsu_, vag_nm, vag_tp, vsa_nil, vsa_cons, vwp_nil, vwp_cons, vbk_nil, vbk_cons, var_nil, var_val, var_slot, var_mut, vbo_nil, vbo_false, vbo_true, vpm_nil, vpm_cons, vco_, vevTo_no, vevTo_so, vsp_, vil_, vap_, vou_nil, vou_false, vou_true, vsh_tup, vsh_int, vsh_bl, vsh_non, vsh_str, vsh_frl, vsh_lst, vsh_dic, vsr_tup, vsr_int, vsr_bl, vsr_non, vsr_str, vsr_frl, vsr_lstF, vsr_lstT, vsr_dicF, vsr_dicT, vss_int, vss_nil, vss_cons, vbn_add, vbn_sub, vbn_mul, vbn_pow, vbn_mod, vbn_div, vbn_tup, vbn_lst, vcm_lt, vcm_le, vcm_gt, vcm_ge, vcm_eq, vcm_ne, vcm_eqB, vcm_neB, vcm_in, vcm_notin, vcm_eqT, vcm_neT, vcm_eqL, vcm_neL, vtr_bl, vtr_int, vtr_tup, vtr_lst, vtr_non, vno_, vng_, viN_non, viN_tup, viN_int, viN_bl, viN_str, viN_lst, viN_dic, vii_int, vii_bool, vii_str, vii_tuple, vii_list, vii_dict, vty_non, vty_bl, vty_int, vty_str, vty_tup, vty_lst, vty_frl, vty_dic, vbi_lenT, vbi_lenL, vbi_lenF, vbi_lenD, vbi_abs, vbi_intI, vbi_intB, vbi_max2, vbi_min2, vbi_maxL, vbi_minL, vbi_sum, vbi_all, vbi_any, vbi_listT, vbi_listL, vbi_tupT, vbi_tupL, vbi_sortL, vbi_sortD, vwk_tup, vwk_lst, vr1_, vr2_, vzp_tt, vzp_ll, vsb_tup, vsb_lst, vsb_frl, vsb_dic, vsl_tup, vsl_lst, vrv_lst, vsk_abs, vjn_s, vsg_, vcx_cl, vfi_rt, vfi_nx, List.getElem?_cons_zero, List.getElem?_cons_succ, List.set_cons_zero, List.set_cons_succ, Option.map_some, Option.map_none, Option.bind_some, List.length_cons, List.length_nil, Nat.reduceAdd, Nat.reduceLT, Nat.reduceSub, reduceIte, Bool.not_true, Bool.not_false, Bool.and_true, Bool.true_and, Bool.and_false, Bool.false_and, Bool.or_true, Bool.true_or, Bool.or_false, Bool.false_or, vcx_sg, Bool.false_eq_true, if_false, if_true, List.nil_append, String.reduceBEq, String.reduceEq]; rfl)
end KLaw
namespace KLaw
open PySem PySem.Spec PyProof.Rows L2 DE
open CL
abbrev T (l : List Int) : D := .tup (l.map .int)
def litD (n : Int) : D → Bool
  | .int x => litB n x
  | _ => false
theorem is_literal_ok (k : Nat) (d : D) (n : Int) : callK tab (k + 2) "is_literal" [d, .int n] = .ok (.bl (litD n d)) [] := by
  cases d with
  | int x =>
    simp only [c_is_literal, b_is_literal, eev_cst, eev_var, eev_tupD, eev_lstD, eev_dic0, eev_bin, eev_neg, eev_cmp, eev_isN, eev_chn, eev_notE, eev_andE, eev_orE, eev_ite, eev_sub, eev_slc, eev_rev, eev_call, eev_bi, eev_isi, eev_lc, eev_dc, eev_sortK, eevs_nil, eevs_cons, eevO_no, eevO_so, eevT_tru, eevT_nt, eevT_an, eevT_or, eevL_ex, eevL_rng1, eevL_rng2, eevL_zip, eex_set, eex_par, eex_setI, eex_app, eex_exp, eex_ifs, eex_fr, eex_ret, eex_retN, eex_never, eexs_nil, eexs_cons, vmk_var, vmk_cst, vmk_tupD, vmk_lstD, vmk_dic0, vmk_bin, vmk_neg, vmk_cmp, vmk_isN, vmk_chn, vmk_notE, vmk_andE, vmk_orE, vmk_ite, vmk_sub, vmk_slc, vmk_rev, vmk_call, vmk_bi, vmk_isi, vmk_lc, vmk_dc, vmk_sortK, vbd_ok, vbd_st, vts_ok, vsq_nx, vsq_rt, vnx_ok, voO_some, vb1_bl, vgt_val, vgt_slot, vgs_nil, vgs_cons, vrv_, vso_nil, vso_val, vso_slot, vo1_, vo2_, voN_, voL_, vsu_, vag_nm, vag_tp, vsa_nil, vsa_cons, vwp_nil, vwp_cons, vbk_nil, vbk_cons, var_nil, var_val, var_slot, var_mut, vbo_nil, vbo_false, vbo_true, vpm_nil, vpm_cons, vco_, vevTo_no, vevTo_so, vsp_, vil_, vap_, vou_nil, vou_false, vou_true, vsh_tup, vsh_int, vsh_bl, vsh_non, vsh_str, vsh_frl, vsh_lst, vsh_dic, vsr_tup, vsr_int, vsr_bl, vsr_non, vsr_str, vsr_frl, vsr_lstF, vsr_lstT, vsr_dicF, vsr_dicT, vss_int, vss_nil, vss_cons, vbn_add, vbn_sub, vbn_mul, vbn_pow, vbn_mod, vbn_div, vbn_tup, vbn_lst, vcm_lt, vcm_le, vcm_gt, vcm_ge, vcm_eq, vcm_ne, vcm_eqB, vcm_neB, vcm_in, vcm_notin, vcm_eqT, vcm_neT, vcm_eqL, vcm_neL, vtr_bl, vtr_int, vtr_tup, vtr_lst, vtr_non, vno_, vng_, viN_non, viN_tup, viN_int, viN_bl, viN_str, viN_lst, viN_dic, vii_int, vii_bool, vii_str, vii_tuple, vii_list, vii_dict, vty_non, vty_bl, vty_int, vty_str, vty_tup, vty_lst, vty_frl, vty_dic, vbi_lenT, vbi_lenL, vbi_lenF, vbi_lenD, vbi_abs, vbi_intI, vbi_intB, vbi_max2, vbi_min2, vbi_maxL, vbi_minL, vbi_sum, vbi_all, vbi_any, vbi_listT, vbi_listL, vbi_tupT, vbi_tupL, vbi_sortL, vbi_sortD, vwk_tup, vwk_lst, vr1_, vr2_, vzp_tt, vzp_ll, vsb_tup, vsb_lst, vsb_frl, vsb_dic, vsl_tup, vsl_lst, vrv_lst, vsk_abs, vjn_s, vsg_, vcx_cl, vfi_rt, vfi_nx, List.getElem?_cons_zero, List.getElem?_cons_succ, List.set_cons_zero, List.set_cons_succ, Option.map_some, Option.map_none, Option.bind_some, List.length_cons, List.length_nil, Nat.reduceAdd, Nat.reduceLT, Nat.reduceSub, reduceIte, Bool.not_true, Bool.not_false, Bool.and_true, Bool.true_and, Bool.and_false, Bool.false_and, Bool.or_true, Bool.true_or, Bool.or_false, Bool.false_or, vcx_sg, Bool.false_eq_true, if_false, if_true, List.nil_append, String.reduceBEq, String.reduceEq, t_is_integer, g_is_integer, is_integer_ok, isI]
    rw [show litD n (.int x) = (decide (0 < ab x) && decide (ab x ≤ n)) from rfl]
    unfold ab
    by_cases h : 0 < (if x < 0 then -x else x)
    · simp only [h, decide_true, if_true, eev_cst, eev_var, eev_tupD, eev_lstD, eev_dic0, eev_bin, eev_neg, eev_cmp, eev_isN, eev_chn, eev_notE, eev_andE, eev_orE, eev_ite, eev_sub, eev_slc, eev_rev, eev_call, eev_bi, eev_isi, eev_lc, eev_dc, eev_sortK, eevs_nil, eevs_cons, eevO_no, eevO_so, eevT_tru, eevT_nt, eevT_an, eevT_or, eevL_ex, eevL_rng1, eevL_rng2, eevL_zip, eex_set, eex_par, eex_setI, eex_app, eex_exp, eex_ifs, eex_fr, eex_ret, eex_retN, eex_never, eexs_nil, eexs_cons, vmk_var, vmk_cst, vmk_tupD, vmk_lstD, vmk_dic0, vmk_bin, vmk_neg, vmk_cmp, vmk_isN, vmk_chn, vmk_notE, vmk_andE, vmk_orE, vmk_ite, vmk_sub, vmk_slc, vmk_rev, vmk_call, vmk_bi, vmk_isi, vmk_lc, vmk_dc, vmk_sortK, vbd_ok, vbd_st, vts_ok, vsq_nx, vsq_rt, vnx_ok, voO_some, vb1_bl, vgt_val, vgt_slot, vgs_nil, vgs_cons, vrv_, vso_nil, vso_val, vso_slot, vo1_, vo2_, voN_, voL_, vsu_, vag_nm, vag_tp, vsa_nil, vsa_cons, vwp_nil, vwp_cons, vbk_nil, vbk_cons, var_nil, var_val, var_slot, var_mut, vbo_nil, vbo_false, vbo_true, vpm_nil, vpm_cons, vco_, vevTo_no, vevTo_so, vsp_, vil_, vap_, vou_nil, vou_false, vou_true, vsh_tup, vsh_int, vsh_bl, vsh_non, vsh_str, vsh_frl, vsh_lst, vsh_dic, vsr_tup, vsr_int, vsr_bl, vsr_non, vsr_str, vsr_frl, vsr_lstF, vsr_lstT, vsr_dicF, vsr_dicT, vss_int, vss_nil, vss_cons, vbn_add, vbn_sub, vbn_mul, vbn_pow, vbn_mod, vbn_div, vbn_tup, vbn_lst, vcm_lt, vcm_le, vcm_gt, vcm_ge, vcm_eq, vcm_ne, vcm_eqB, vcm_neB, vcm_in, vcm_notin, vcm_eqT, vcm_neT, vcm_eqL, vcm_neL, vtr_bl, vtr_int, vtr_tup, vtr_lst, vtr_non, vno_, vng_, viN_non, viN_tup, viN_int, viN_bl, viN_str, viN_lst, viN_dic, vii_int, vii_bool, vii_str, vii_tuple, vii_list, vii_dict, vty_non, vty_bl, vty_int, vty_str, vty_tup, vty_lst, vty_frl, vty_dic, vbi_lenT, vbi_lenL, vbi_lenF, vbi_lenD, vbi_abs, vbi_intI, vbi_intB, vbi_max2, vbi_min2, vbi_maxL, vbi_minL, vbi_sum, vbi_all, vbi_any, vbi_listT, vbi_listL, vbi_tupT, vbi_tupL, vbi_sortL, vbi_sortD, vwk_tup, vwk_lst, vr1_, vr2_, vzp_tt, vzp_ll, vsb_tup, vsb_lst, vsb_frl, vsb_dic, vsl_tup, vsl_lst, vrv_lst, vsk_abs, vjn_s, vsg_, vcx_cl, vfi_rt, vfi_nx, List.getElem?_cons_zero, List.getElem?_cons_succ, List.set_cons_zero, List.set_cons_succ, Option.map_some, Option.map_none, Option.bind_some, List.length_cons, List.length_nil, Nat.reduceAdd, Nat.reduceLT, Nat.reduceSub, reduceIte, Bool.not_true, Bool.not_false, Bool.and_true, Bool.true_and, Bool.and_false, Bool.false_and, Bool.or_true, Bool.true_or, Bool.or_false, Bool.false_or, vcx_sg, Bool.false_eq_true, if_false, if_true, List.nil_append, String.reduceBEq, String.reduceEq, Bool.true_and]
    · simp only [h, decide_false, eev_cst, eev_var, eev_tupD, eev_lstD, eev_dic0, eev_bin, eev_neg, eev_cmp, eev_isN, eev_chn, eev_notE, eev_andE, eev_orE, eev_ite, eev_sub, eev_slc, eev_rev, eev_call, eev_bi, eev_isi, eev_lc, eev_dc, eev_sortK, eevs_nil, eevs_cons, eevO_no, eevO_so, eevT_tru, eevT_nt, eevT_an, eevT_or, eevL_ex, eevL_rng1, eevL_rng2, eevL_zip, eex_set, eex_par, eex_setI, eex_app, eex_exp, eex_ifs, eex_fr, eex_ret, eex_retN, eex_never, eexs_nil, eexs_cons, vmk_var, vmk_cst, vmk_tupD, vmk_lstD, vmk_dic0, vmk_bin, vmk_neg, vmk_cmp, vmk_isN, vmk_chn, vmk_notE, vmk_andE, vmk_orE, vmk_ite, vmk_sub, vmk_slc, vmk_rev, vmk_call, vmk_bi, vmk_isi, vmk_lc, vmk_dc, vmk_sortK, vbd_ok, vbd_st, vts_ok, vsq_nx, vsq_rt, vnx_ok, voO_some, vb1_bl, vgt_val, vgt_slot, vgs_nil, vgs_cons, vrv_, vso_nil, vso_val, vso_slot, vo1_, vo2_, voN_, voL_, vsu_, vag_nm, vag_tp, vsa_nil, vsa_cons, vwp_nil, vwp_cons, vbk_nil, vbk_cons, var_nil, var_val, var_slot, var_mut, vbo_nil, vbo_false, vbo_true, vpm_nil, vpm_cons, vco_, vevTo_no, vevTo_so, vsp_, vil_, vap_, vou_nil, vou_false, vou_true, vsh_tup, vsh_int, vsh_bl, vsh_non, vsh_str, vsh_frl, vsh_lst, vsh_dic, vsr_tup, vsr_int, vsr_bl, vsr_non, vsr_str, vsr_frl, vsr_lstF, vsr_lstT, vsr_dicF, vsr_dicT, vss_int, vss_nil, vss_cons, vbn_add, vbn_sub, vbn_mul, vbn_pow, vbn_mod, vbn_div, vbn_tup, vbn_lst, vcm_lt, vcm_le, vcm_gt, vcm_ge, vcm_eq, vcm_ne, vcm_eqB, vcm_neB, vcm_in, vcm_notin, vcm_eqT, vcm_neT, vcm_eqL, vcm_neL, vtr_bl, vtr_int, vtr_tup, vtr_lst, vtr_non, vno_, vng_, viN_non, viN_tup, viN_int, viN_bl, viN_str, viN_lst, viN_dic, vii_int, vii_bool, vii_str, vii_tuple, vii_list, vii_dict, vty_non, vty_bl, vty_int, vty_str, vty_tup, vty_lst, vty_frl, vty_dic, vbi_lenT, vbi_lenL, vbi_lenF, vbi_lenD, vbi_abs, vbi_intI, vbi_intB, vbi_max2, vbi_min2, vbi_maxL, vbi_minL, vbi_sum, vbi_all, vbi_any, vbi_listT, vbi_listL, vbi_tupT, vbi_tupL, vbi_sortL, vbi_sortD, vwk_tup, vwk_lst, vr1_, vr2_, vzp_tt, vzp_ll, vsb_tup, vsb_lst, vsb_frl, vsb_dic, vsl_tup, vsl_lst, vrv_lst, vsk_abs, vjn_s, vsg_, vcx_cl, vfi_rt, vfi_nx, List.getElem?_cons_zero, List.getElem?_cons_succ, List.set_cons_zero, List.set_cons_succ, Option.map_some, Option.map_none, Option.bind_some, List.length_cons, List.length_nil, Nat.reduceAdd, Nat.reduceLT, Nat.reduceSub, reduceIte, Bool.not_true, Bool.not_false, Bool.and_true, Bool.true_and, Bool.and_false, Bool.false_and, Bool.or_true, Bool.true_or, Bool.or_false, Bool.false_or, vcx_sg, Bool.false_eq_true, if_false, if_true, List.nil_append, String.reduceBEq, String.reduceEq, Bool.false_and, Bool.false_eq_true, if_false]
  | lst o xs => cases o <;> (simp only [c_is_literal, b_is_literal, eev_cst, eev_var, eev_tupD, eev_lstD, eev_dic0, eev_bin, eev_neg, eev_cmp, eev_isN, eev_chn, eev_notE, eev_andE, eev_orE, eev_ite, eev_sub, eev_slc, eev_rev, eev_call, eev_bi, eev_isi, eev_lc, eev_dc, eev_sortK, eevs_nil, eevs_cons, eevO_no, eevO_so, eevT_tru, eevT_nt, eevT_an, eevT_or, eevL_ex, eevL_rng1, eevL_rng2, eevL_zip, eex_set, eex_par, eex_setI, eex_app, eex_exp, eex_ifs, eex_fr, eex_ret, eex_retN, eex_never, eexs_nil, eexs_cons, vmk_var, vmk_cst, vmk_tupD, vmk_lstD, vmk_dic0, vmk_bin, vmk_neg, vmk_cmp, vmk_isN, vmk_chn, vmk_notE, vmk_andE, vmk_orE, vmk_ite, vmk_sub, vmk_slc, vmk_rev, vmk_call, vmk_bi, vmk_isi, vmk_lc, vmk_dc, vmk_sortK, vbd_ok, vbd_st, vts_ok, vsq_nx, vsq_rt, vnx_ok, voO_some, vb1_bl, vgt_val, vgt_slot, vgs_nil, vgs_cons, vrv_, vso_nil, vso_val, vso_slot, vo1_, vo2_, voN_, voL_, vsu_, vag_nm, vag_tp, vsa_nil, vsa_cons, vwp_nil, vwp_cons, vbk_nil, vbk_cons, var_nil, var_val, var_slot, var_mut, vbo_nil, vbo_false, vbo_true, vpm_nil, vpm_cons, vco_, vevTo_no, vevTo_so, vsp_, vil_, vap_, vou_nil, vou_false, vou_true, vsh_tup, vsh_int, vsh_bl, vsh_non, vsh_str, vsh_frl, vsh_lst, vsh_dic, vsr_tup, vsr_int, vsr_bl, vsr_non, vsr_str, vsr_frl, vsr_lstF, vsr_lstT, vsr_dicF, vsr_dicT, vss_int, vss_nil, vss_cons, vbn_add, vbn_sub, vbn_mul, vbn_pow, vbn_mod, vbn_div, vbn_tup, vbn_lst, vcm_lt, vcm_le, vcm_gt, vcm_ge, vcm_eq, vcm_ne, vcm_eqB, vcm_neB, vcm_in, vcm_notin, vcm_eqT, vcm_neT, vcm_eqL, vcm_neL, vtr_bl, vtr_int, vtr_tup, vtr_lst, vtr_non, vno_, vng_, viN_non, viN_tup, viN_int, viN_bl, viN_str, viN_lst, viN_dic, vii_int, vii_bool, vii_str, vii_tuple, vii_list, vii_dict, vty_non, vty_bl, vty_int, vty_str, vty_tup, vty_lst, vty_frl, vty_dic, vbi_lenT, vbi_lenL, vbi_lenF, vbi_lenD, vbi_abs, vbi_intI, vbi_intB, vbi_max2, vbi_min2, vbi_maxL, vbi_minL, vbi_sum, vbi_all, vbi_any, vbi_listT, vbi_listL, vbi_tupT, vbi_tupL, vbi_sortL, vbi_sortD, vwk_tup, vwk_lst, vr1_, vr2_, vzp_tt, vzp_ll, vsb_tup, vsb_lst, vsb_frl, vsb_dic, vsl_tup, vsl_lst, vrv_lst, vsk_abs, vjn_s, vsg_, vcx_cl, vfi_rt, vfi_nx, List.getElem?_cons_zero, List.getElem?_cons_succ, List.set_cons_zero, List.set_cons_succ, Option.map_some, Option.map_none, Option.bind_some, List.length_cons, List.length_nil, Nat.reduceAdd, Nat.reduceLT, Nat.reduceSub, reduceIte, Bool.not_true, Bool.not_false, Bool.and_true, Bool.true_and, Bool.and_false, Bool.false_and, Bool.or_true, Bool.true_or, Bool.or_false, Bool.false_or, vcx_sg, Bool.false_eq_true, if_false, if_true, List.nil_append, String.reduceBEq, String.reduceEq, t_is_integer, g_is_integer, is_integer_ok, isI]; rfl)
  | dic o xs => cases o <;> (simp only [c_is_literal, b_is_literal, eev_cst, eev_var, eev_tupD, eev_lstD, eev_dic0, eev_bin, eev_neg, eev_cmp, eev_isN, eev_chn, eev_notE, eev_andE, eev_orE, eev_ite, eev_sub, eev_slc, eev_rev, eev_call, eev_bi, eev_isi, eev_lc, eev_dc, eev_sortK, eevs_nil, eevs_cons, eevO_no, eevO_so, eevT_tru, eevT_nt, eevT_an, eevT_or, eevL_ex, eevL_rng1, eevL_rng2, eevL_zip, eex_set, eex_par, eex_setI, eex_app, eex_exp, eex_ifs, eex_fr, eex_ret, eex_retN, eex_never, eexs_nil, eexs_cons, vmk_var, vmk_cst, vmk_tupD, vmk_lstD, vmk_dic0, vmk_bin, vmk_neg, vmk_cmp, vmk_isN, vmk_chn, vmk_notE, vmk_andE, vmk_orE, vmk_ite, vmk_sub, vmk_slc, vmk_rev, vmk_call, vmk_bi, vmk_isi, vmk_lc, vmk_dc, vmk_sortK, vbd_ok, vbd_st, vts_ok, vsq_nx, vsq_rt, vnx_ok, voO_some, vb1_bl, vgt_val, vgt_slot, vgs_nil, vgs_cons, vrv_, vso_nil, vso_val, vso_slot, vo1_, vo2_, voN_, voL_, vsu_, vag_nm, vag_tp, vsa_nil, vsa_cons, vwp_nil, vwp_cons, vbk_nil, vbk_cons, var_nil, var_val, var_slot, var_mut, vbo_nil, vbo_false, vbo_true, vpm_nil, vpm_cons, vco_, vevTo_no, vevTo_so, vsp_, vil_, vap_, vou_nil, vou_false, vou_true, vsh_tup, vsh_int, vsh_bl, vsh_non, vsh_str, vsh_frl, vsh_lst, vsh_dic, vsr_tup, vsr_int, vsr_bl, vsr_non, vsr_str, vsr_frl, vsr_lstF, vsr_lstT, vsr_dicF, vsr_dicT, vss_int, vss_nil, vss_cons, vbn_add, vbn_sub, vbn_mul, vbn_pow, vbn_mod, vbn_div, vbn_tup, vbn_lst, vcm_lt, vcm_le, vcm_gt, vcm_ge, vcm_eq, vcm_ne, vcm_eqB, vcm_neB, vcm_in, vcm_notin, vcm_eqT, vcm_neT, vcm_eqL, vcm_neL, vtr_bl, vtr_int, vtr_tup, vtr_lst, vtr_non, vno_, vng_, viN_non, viN_tup, viN_int, viN_bl, viN_str, viN_lst, viN_dic, vii_int, vii_bool, vii_str, vii_tuple, vii_list, vii_dict, vty_non, vty_bl, vty_int, vty_str, vty_tup, vty_lst, vty_frl, vty_dic, vbi_lenT, vbi_lenL, vbi_lenF, vbi_lenD, vbi_abs, vbi_intI, vbi_intB, vbi_max2, vbi_min2, vbi_maxL, vbi_minL, vbi_sum, vbi_all, vbi_any, vbi_listT, vbi_listL, vbi_tupT, vbi_tupL, vbi_sortL, vbi_sortD, vwk_tup, vwk_lst, vr1_, vr2_, vzp_tt, vzp_ll, vsb_tup, vsb_lst, vsb_frl, vsb_dic, vsl_tup, vsl_lst, vrv_lst, vsk_abs, vjn_s, vsg_, vcx_cl, vfi_rt, vfi_nx, List.getElem?_cons_zero, List.getElem?_cons_succ, List.set_cons_zero, List.set_cons_succ, Option.map_some, Option.map_none, Option.bind_some, List.length_cons, List.length_nil, Nat.reduceAdd, Nat.reduceLT, Nat.reduceSub, reduceIte, Bool.not_true, Bool.not_false, Bool.and_true, Bool.true_and, Bool.and_false, Bool.false_and, Bool.or_true, Bool.true_or, Bool.or_false, Bool.false_or, vcx_sg, Bool.false_eq_true, if_false, if_true, List.nil_append, String.reduceBEq, String.reduceEq, t_is_integer, g_is_integer, is_integer_ok, isI]; rfl)
  | _ => simp only [c_is_literal, b_is_literal, eev_cst, eev_var, eev_tupD, eev_lstD, eev_dic0, eev_bin, eev_neg, eev_cmp, eev_isN, eev_chn, eev_notE, eev_andE, eev_orE, eev_ite, eev_sub, eev_slc, eev_rev, eev_call, eev_bi, eev_isi, eev_lc, eev_dc, eev_sortK, eevs_nil, eevs_cons, eevO_no, eevO_so, eevT_tru, eevT_nt, eevT_an, eevT_or, eevL_ex, eevL_rng1, eevL_rng2, eevL_zip, eex_set, eex_par, eex_setI, eex_app, eex_exp, eex_ifs, eex_fr, eex_ret, eex_retN, eex_never, eexs_nil, eexs_cons, vmk_var, vmk_cst, vmk_tupD, vmk_lstD, vmk_dic0, vmk_bin, vmk_neg, vmk_cmp, vmk_isN, vmk_chn, vmk_notE, vmk_andE, vmk_orE, vmk_ite, vmk_sub, vmk_slc, vmk_rev, vmk_call, vmk_bi, vmk_isi, vmk_lc, vmk_dc, vmk_sortK, vbd_ok, vbd_st, vts_ok, vsq_nx, vsq_rt, vnx_ok, voO_some, vb1_bl, vgt_val, vgt_slot, vgs_nil, vgs_cons, vrv_, vso_nil, vso_val, vso_slot, vo1_, vo2_, voN_, voL_, vsu_, vag_nm, vag_tp, vsa_nil, vsa_cons, vwp_nil, vwp_cons, vbk_nil, vbk_cons, var_nil, var_val, var_slot, var_mut, vbo_nil, vbo_false, vbo_true, vpm_nil, vpm_cons, vco_, vevTo_no, vevTo_so, vsp_, vil_, vap_, vou_nil, vou_false, vou_true, vsh_tup, vsh_int, vsh_bl, vsh_non, vsh_str, vsh_frl, vsh_lst, vsh_dic, vsr_tup, vsr_int, vsr_bl, vsr_non, vsr_str, vsr_frl, vsr_lstF, vsr_lstT, vsr_dicF, vsr_dicT, vss_int, vss_nil, vss_cons, vbn_add, vbn_sub, vbn_mul, vbn_pow, vbn_mod, vbn_div, vbn_tup, vbn_lst, vcm_lt, vcm_le, vcm_gt, vcm_ge, vcm_eq, vcm_ne, vcm_eqB, vcm_neB, vcm_in, vcm_notin, vcm_eqT, vcm_neT, vcm_eqL, vcm_neL, vtr_bl, vtr_int, vtr_tup, vtr_lst, vtr_non, vno_, vng_, viN_non, viN_tup, viN_int, viN_bl, viN_str, viN_lst, viN_dic, vii_int, vii_bool, vii_str, vii_tuple, vii_list, vii_dict, vty_non, vty_bl, vty_int, vty_str, vty_tup, vty_lst, vty_frl, vty_dic, vbi_lenT, vbi_lenL, vbi_lenF, vbi_lenD, vbi_abs, vbi_intI, vbi_intB, vbi_max2, vbi_min2, vbi_maxL, vbi_minL, vbi_sum, vbi_all, vbi_any, vbi_listT, vbi_listL, vbi_tupT, vbi_tupL, vbi_sortL, vbi_sortD, vwk_tup, vwk_lst, vr1_, vr2_, vzp_tt, vzp_ll, vsb_tup, vsb_lst, vsb_frl, vsb_dic, vsl_tup, vsl_lst, vrv_lst, vsk_abs, vjn_s, vsg_, vcx_cl, vfi_rt, vfi_nx, List.getElem?_cons_zero, List.getElem?_cons_succ, List.set_cons_zero, List.set_cons_succ, Option.map_some, Option.map_none, Option.bind_some, List.length_cons, List.length_nil, Nat.reduceAdd, Nat.reduceLT, Nat.reduceSub, reduceIte, Bool.not_true, Bool.not_false, Bool.and_true, Bool.true_and, Bool.and_false, Bool.false_and, Bool.or_true, Bool.true_or, Bool.or_false, Bool.false_or, vcx_sg, Bool.false_eq_true, if_false, if_true, List.nil_append, String.reduceBEq, String.reduceEq, t_is_integer, g_is_integer, is_integer_ok, isI]; rfl
theorem all_id {α : Type} (f : α → Bool) (l : List α) : (l.map f).all id = l.all f := by rw [List.all_map]; rfl
theorem cut1 {α : Type} (l : List α) : DE.cutD l (some 1) none = l.tail := by
  unfold DE.cutD DE.sIx
  cases l with
  | nil => rfl
  | cons a r => simp
theorem zip_map' {α : Type} (f : α → D) : ∀ l m : List α, zipD (l.map f) (m.map f) = (l.zip m).map fun p => .tup [f p.1, f p.2]
  | [], _ => by simp [zipD]
  | a :: r, [] => by simp [zipD]
  | a :: r, b :: s => by have := zip_map' f r s; simp only [zipD] at this; simp [zipD, this]
theorem is_clause_of_lc (k : Nat) (ds : List D) (n : Int) (hs : ds.all shd = true) : lcL [4] (.nm 4) none (ev (cxT tab (k + 2)) (.call "is_literal" (.cons (.var 4) (.cons (.var 1) .nil)) [0, 1])) ds [] [some (.tup ds), some (.int n), none, none, none] = .ok (ds.map fun d => .bl (litD n d)) [some (.tup ds), some (.int n), none, none, none] := by
  have e := lcL_map (own := [4]) (tg := .nm 4) (el := ev (cxT tab (k + 2)) (.call "is_literal" (.cons (.var 4) (.cons (.var 1) .nil)) [0, 1])) id (fun d => .bl (litD n d)) (ρ := [some (.tup ds), some (.int n), none, none, none]) ds [] (fun d hd => by
    have hd : shd d = true := List.all_eq_true.mp hs d hd
    refine ⟨_, [some (.tup ds), some (.int n), none, none, some d], rfl, ?_, rfl⟩
    simp only [eev_cst, eev_var, eev_tupD, eev_lstD, eev_dic0, eev_bin, eev_neg, eev_cmp, eev_isN, eev_chn, eev_notE, eev_andE, eev_orE, eev_ite, eev_sub, eev_slc, eev_rev, eev_call, eev_bi, eev_isi, eev_lc, eev_dc, eev_sortK, eevs_nil, eevs_cons, eevO_no, eevO_so, eevT_tru, eevT_nt, eevT_an, eevT_or, eevL_ex, eevL_rng1, eevL_rng2, eevL_zip, eex_set, eex_par, eex_setI, eex_app, eex_exp, eex_ifs, eex_fr, eex_ret, eex_retN, eex_never, eexs_nil, eexs_cons, vmk_var, vmk_cst, vmk_tupD, vmk_lstD, vmk_dic0, vmk_bin, vmk_neg, vmk_cmp, vmk_isN, vmk_chn, vmk_notE, vmk_andE, vmk_orE, vmk_ite, vmk_sub, vmk_slc, vmk_rev, vmk_call, vmk_bi, vmk_isi, vmk_lc, vmk_dc, vmk_sortK, vbd_ok, vbd_st, vts_ok, vsq_nx, vsq_rt, vnx_ok, voO_some, vb1_bl, vgt_val, vgt_slot, vgs_nil, vgs_cons, vrv_, vso_nil, vso_val, vso_slot, vo1_, vo2_, voN_, voL_, vsu_, vag_nm, vag_tp, vsa_nil, vsa_cons, vwp_nil, vwp_cons, vbk_nil, vbk_cons, var_nil, var_val, var_slot, var_mut, vbo_nil, vbo_false, vbo_true, vpm_nil, vpm_cons, vco_, vevTo_no, vevTo_so, vsp_, vil_, vap_, vou_nil, vou_false, vou_true, vsh_tup, vsh_int, vsh_bl, vsh_non, vsh_str, vsh_frl, vsh_lst, vsh_dic, vsr_tup, vsr_int, vsr_bl, vsr_non, vsr_str, vsr_frl, vsr_lstF, vsr_lstT, vsr_dicF, vsr_dicT, vss_int, vss_nil, vss_cons, vbn_add, vbn_sub, vbn_mul, vbn_pow, vbn_mod, vbn_div, vbn_tup, vbn_lst, vcm_lt, vcm_le, vcm_gt, vcm_ge, vcm_eq, vcm_ne, vcm_eqB, vcm_neB, vcm_in, vcm_notin, vcm_eqT, vcm_neT, vcm_eqL, vcm_neL, vtr_bl, vtr_int, vtr_tup, vtr_lst, vtr_non, vno_, vng_, viN_non, viN_tup, viN_int, viN_bl, viN_str, viN_lst, viN_dic, vii_int, vii_bool, vii_str, vii_tuple, vii_list, vii_dict, vty_non, vty_bl, vty_int, vty_str, vty_tup, vty_lst, vty_frl, vty_dic, vbi_lenT, vbi_lenL, vbi_lenF, vbi_lenD, vbi_abs, vbi_intI, vbi_intB, vbi_max2, vbi_min2, vbi_maxL, vbi_minL, vbi_sum, vbi_all, vbi_any, vbi_listT, vbi_listL, vbi_tupT, vbi_tupL, vbi_sortL, vbi_sortD, vwk_tup, vwk_lst, vr1_, vr2_, vzp_tt, vzp_ll, vsb_tup, vsb_lst, vsb_frl, vsb_dic, vsl_tup, vsl_lst, vrv_lst, vsk_abs, vjn_s, vsg_, vcx_cl, vfi_rt, vfi_nx, List.getElem?_cons_zero, List.getElem?_cons_succ, List.set_cons_zero, List.set_cons_succ, Option.map_some, Option.map_none, Option.bind_some, List.length_cons, List.length_nil, Nat.reduceAdd, Nat.reduceLT, Nat.reduceSub, reduceIte, Bool.not_true, Bool.not_false, Bool.and_true, Bool.true_and, Bool.and_false, Bool.false_and, Bool.or_true, Bool.true_or, Bool.or_false, Bool.false_or, vcx_sg, Bool.false_eq_true, if_false, if_true, List.nil_append, String.reduceBEq, String.reduceEq, id, hd, t_is_literal, g_is_literal, is_literal_ok])
  rwa [List.map_id, List.nil_append] at e
theorem is_clause_of_lit (k : Nat) (ds : List D) (n : Int) (hs : ds.all shd = true) (h : ds.all (litD n) = false) : callK tab (k + 3) "is_clause_of" [.tup ds, .int n] = .ok (.bl false) [] := by
  simp only [c_is_clause_of, b_is_clause_of, eev_cst, eev_var, eev_tupD, eev_lstD, eev_dic0, eev_bin, eev_neg, eev_cmp, eev_isN, eev_chn, eev_notE, eev_andE, eev_orE, eev_ite, eev_sub, eev_slc, eev_rev, eev_call, eev_bi, eev_isi, eev_lc, eev_dc, eev_sortK, eevs_nil, eevs_cons, eevO_no, eevO_so, eevT_tru, eevT_nt, eevT_an, eevT_or, eevL_ex, eevL_rng1, eevL_rng2, eevL_zip, eex_set, eex_par, eex_setI, eex_app, eex_exp, eex_ifs, eex_fr, eex_ret, eex_retN, eex_never, eexs_nil, eexs_cons, vmk_var, vmk_cst, vmk_tupD, vmk_lstD, vmk_dic0, vmk_bin, vmk_neg, vmk_cmp, vmk_isN, vmk_chn, vmk_notE, vmk_andE, vmk_orE, vmk_ite, vmk_sub, vmk_slc, vmk_rev, vmk_call, vmk_bi, vmk_isi, vmk_lc, vmk_dc, vmk_sortK, vbd_ok, vbd_st, vts_ok, vsq_nx, vsq_rt, vnx_ok, voO_some, vb1_bl, vgt_val, vgt_slot, vgs_nil, vgs_cons, vrv_, vso_nil, vso_val, vso_slot, vo1_, vo2_, voN_, voL_, vsu_, vag_nm, vag_tp, vsa_nil, vsa_cons, vwp_nil, vwp_cons, vbk_nil, vbk_cons, var_nil, var_val, var_slot, var_mut, vbo_nil, vbo_false, vbo_true, vpm_nil, vpm_cons, vco_, vevTo_no, vevTo_so, vsp_, vil_, vap_, vou_nil, vou_false, vou_true, vsh_tup, vsh_int, vsh_bl, vsh_non, vsh_str, vsh_frl, vsh_lst, vsh_dic, vsr_tup, vsr_int, vsr_bl, vsr_non, vsr_str, vsr_frl, vsr_lstF, vsr_lstT, vsr_dicF, vsr_dicT, vss_int, vss_nil, vss_cons, vbn_add, vbn_sub, vbn_mul, vbn_pow, vbn_mod, vbn_div, vbn_tup, vbn_lst, vcm_lt, vcm_le, vcm_gt, vcm_ge, vcm_eq, vcm_ne, vcm_eqB, vcm_neB, vcm_in, vcm_notin, vcm_eqT, vcm_neT, vcm_eqL, vcm_neL, vtr_bl, vtr_int, vtr_tup, vtr_lst, vtr_non, vno_, vng_, viN_non, viN_tup, viN_int, viN_bl, viN_str, viN_lst, viN_dic, vii_int, vii_bool, vii_str, vii_tuple, vii_list, vii_dict, vty_non, vty_bl, vty_int, vty_str, vty_tup, vty_lst, vty_frl, vty_dic, vbi_lenT, vbi_lenL, vbi_lenF, vbi_lenD, vbi_abs, vbi_intI, vbi_intB, vbi_max2, vbi_min2, vbi_maxL, vbi_minL, vbi_sum, vbi_all, vbi_any, vbi_listT, vbi_listL, vbi_tupT, vbi_tupL, vbi_sortL, vbi_sortD, vwk_tup, vwk_lst, vr1_, vr2_, vzp_tt, vzp_ll, vsb_tup, vsb_lst, vsb_frl, vsb_dic, vsl_tup, vsl_lst, vrv_lst, vsk_abs, vjn_s, vsg_, vcx_cl, vfi_rt, vfi_nx, List.getElem?_cons_zero, List.getElem?_cons_succ, List.set_cons_zero, List.set_cons_succ, Option.map_some, Option.map_none, Option.bind_some, List.length_cons, List.length_nil, Nat.reduceAdd, Nat.reduceLT, Nat.reduceSub, reduceIte, Bool.not_true, Bool.not_false, Bool.and_true, Bool.true_and, Bool.and_false, Bool.false_and, Bool.or_true, Bool.true_or, Bool.or_false, Bool.false_or, vcx_sg, Bool.false_eq_true, if_false, if_true, List.nil_append, String.reduceBEq, String.reduceEq, is_clause_of_lc k ds n hs, bls_map, all_id, h]
theorem is_clause_of_T (k : Nat) (l : List Int) (n : Int) : callK tab (k + 3) "is_clause_of" [T l, .int n] = .ok (.bl (clB n l)) [] := by
  have hs : (l.map D.int).all shd = true := all_shd _ (fun _ => rfl) l
  have e : (l.map D.int).all (litD n) = l.all (litB n) := by rw [List.all_map]; rfl
  cases h : l.all (litB n) with
  | false => rw [is_clause_of_lit k _ n hs (e.trans h)]; simp [clB, h]
  | true =>
    have e2 := lcL_map (own := [2, 3]) (tg := .tp [2, 3]) (el := ev (cxT tab (k + 2)) (.cmp .Lt (.bi "abs" (.cons (.var 2) .nil)) (.bi "abs" (.cons (.var 3) .nil)))) (fun p : Int × Int => .tup [.int p.1, .int p.2]) (fun p => .bl (decide (ab p.1 < ab p.2))) (ρ := [some (T l), some (.int n), none, none, none]) (l.zip l.tail) [] (fun d hd => by
      refine ⟨_, [some (T l), some (.int n), some (.int d.1), some (.int d.2), none], rfl, ?_, rfl⟩
      simp only [eev_cst, eev_var, eev_tupD, eev_lstD, eev_dic0, eev_bin, eev_neg, eev_cmp, eev_isN, eev_chn, eev_notE, eev_andE, eev_orE, eev_ite, eev_sub, eev_slc, eev_rev, eev_call, eev_bi, eev_isi, eev_lc, eev_dc, eev_sortK, eevs_nil, eevs_cons, eevO_no, eevO_so, eevT_tru, eevT_nt, eevT_an, eevT_or, eevL_ex, eevL_rng1, eevL_rng2, eevL_zip, eex_set, eex_par, eex_setI, eex_app, eex_exp, eex_ifs, eex_fr, eex_ret, eex_retN, eex_never, eexs_nil, eexs_cons, vmk_var, vmk_cst, vmk_tupD, vmk_lstD, vmk_dic0, vmk_bin, vmk_neg, vmk_cmp, vmk_isN, vmk_chn, vmk_notE, vmk_andE, vmk_orE, vmk_ite, vmk_sub, vmk_slc, vmk_rev, vmk_call, vmk_bi, vmk_isi, vmk_lc, vmk_dc, vmk_sortK, vbd_ok, vbd_st, vts_ok, vsq_nx, vsq_rt, vnx_ok, voO_some, vb1_bl, vgt_val, vgt_slot, vgs_nil, vgs_cons, vrv_, vso_nil, vso_val, vso_slot, vo1_, vo2_, voN_, voL_, vsu_, vag_nm, vag_tp, vsa_nil, vsa_cons, vwp_nil, vwp_cons, vbk_nil, vbk_cons, var_nil, var_val, var_slot, var_mut, vbo_nil, vbo_false, vbo_true, vpm_nil, vpm_cons, vco_, vevTo_no, vevTo_so, vsp_, vil_, vap_, vou_nil, vou_false, vou_true, vsh_tup, vsh_int, vsh_bl, vsh_non, vsh_str, vsh_frl, vsh_lst, vsh_dic, vsr_tup, vsr_int, vsr_bl, vsr_non, vsr_str, vsr_frl, vsr_lstF, vsr_lstT, vsr_dicF, vsr_dicT, vss_int, vss_nil, vss_cons, vbn_add, vbn_sub, vbn_mul, vbn_pow, vbn_mod, vbn_div, vbn_tup, vbn_lst, vcm_lt, vcm_le, vcm_gt, vcm_ge, vcm_eq, vcm_ne, vcm_eqB, vcm_neB, vcm_in, vcm_notin, vcm_eqT, vcm_neT, vcm_eqL, vcm_neL, vtr_bl, vtr_int, vtr_tup, vtr_lst, vtr_non, vno_, vng_, viN_non, viN_tup, viN_int, viN_bl, viN_str, viN_lst, viN_dic, vii_int, vii_bool, vii_str, vii_tuple, vii_list, vii_dict, vty_non, vty_bl, vty_int, vty_str, vty_tup, vty_lst, vty_frl, vty_dic, vbi_lenT, vbi_lenL, vbi_lenF, vbi_lenD, vbi_abs, vbi_intI, vbi_intB, vbi_max2, vbi_min2, vbi_maxL, vbi_minL, vbi_sum, vbi_all, vbi_any, vbi_listT, vbi_listL, vbi_tupT, vbi_tupL, vbi_sortL, vbi_sortD, vwk_tup, vwk_lst, vr1_, vr2_, vzp_tt, vzp_ll, vsb_tup, vsb_lst, vsb_frl, vsb_dic, vsl_tup, vsl_lst, vrv_lst, vsk_abs, vjn_s, vsg_, vcx_cl, vfi_rt, vfi_nx, List.getElem?_cons_zero, List.getElem?_cons_succ, List.set_cons_zero, List.set_cons_succ, Option.map_some, Option.map_none, Option.bind_some, List.length_cons, List.length_nil, Nat.reduceAdd, Nat.reduceLT, Nat.reduceSub, reduceIte, Bool.not_true, Bool.not_false, Bool.and_true, Bool.true_and, Bool.and_false, Bool.false_and, Bool.or_true, Bool.true_or, Bool.or_false, Bool.false_or, vcx_sg, Bool.false_eq_true, if_false, if_true, List.nil_append, String.reduceBEq, String.reduceEq]; rfl)
    simp only [c_is_clause_of, b_is_clause_of, eev_cst, eev_var, eev_tupD, eev_lstD, eev_dic0, eev_bin, eev_neg, eev_cmp, eev_isN, eev_chn, eev_notE, eev_andE, eev_orE, eev_ite, eev_sub, eev_slc, eev_rev, eev_call, eev_bi, eev_isi, eev_lc, eev_dc, eev_sortK, eevs_nil, eevs_cons, eevO_no, eevO_so, eevT_tru, eevT_nt, eevT_an, eevT_or, eevL_ex, eevL_rng1, eevL_rng2, eevL_zip, eex_set, eex_par, eex_setI, eex_app, eex_exp, eex_ifs, eex_fr, eex_ret, eex_retN, eex_never, eexs_nil, eexs_cons, vmk_var, vmk_cst, vmk_tupD, vmk_lstD, vmk_dic0, vmk_bin, vmk_neg, vmk_cmp, vmk_isN, vmk_chn, vmk_notE, vmk_andE, vmk_orE, vmk_ite, vmk_sub, vmk_slc, vmk_rev, vmk_call, vmk_bi, vmk_isi, vmk_lc, vmk_dc, vmk_sortK, vbd_ok, vbd_st, vts_ok, vsq_nx, vsq_rt, vnx_ok, voO_some, vb1_bl, vgt_val, vgt_slot, vgs_nil, vgs_cons, vrv_, vso_nil, vso_val, vso_slot, vo1_, vo2_, voN_, voL_, vsu_, vag_nm, vag_tp, vsa_nil, vsa_cons, vwp_nil, vwp_cons, vbk_nil, vbk_cons, var_nil, var_val, var_slot, var_mut, vbo_nil, vbo_false, vbo_true, vpm_nil, vpm_cons, vco_, vevTo_no, vevTo_so, vsp_, vil_, vap_, vou_nil, vou_false, vou_true, vsh_tup, vsh_int, vsh_bl, vsh_non, vsh_str, vsh_frl, vsh_lst, vsh_dic, vsr_tup, vsr_int, vsr_bl, vsr_non, vsr_str, vsr_frl, vsr_lstF, vsr_lstT, vsr_dicF, vsr_dicT, vss_int, vss_nil, vss_cons, vbn_add, vbn_sub, vbn_mul, vbn_pow, vbn_mod, vbn_div, vbn_tup, vbn_lst, vcm_lt, vcm_le, vcm_gt, vcm_ge, vcm_eq, vcm_ne, vcm_eqB, vcm_neB, vcm_in, vcm_notin, vcm_eqT, vcm_neT, vcm_eqL, vcm_neL, vtr_bl, vtr_int, vtr_tup, vtr_lst, vtr_non, vno_, vng_, viN_non, viN_tup, viN_int, viN_bl, viN_str, viN_lst, viN_dic, vii_int, vii_bool, vii_str, vii_tuple, vii_list, vii_dict, vty_non, vty_bl, vty_int, vty_str, vty_tup, vty_lst, vty_frl, vty_dic, vbi_lenT, vbi_lenL, vbi_lenF, vbi_lenD, vbi_abs, vbi_intI, vbi_intB, vbi_max2, vbi_min2, vbi_maxL, vbi_minL, vbi_sum, vbi_all, vbi_any, vbi_listT, vbi_listL, vbi_tupT, vbi_tupL, vbi_sortL, vbi_sortD, vwk_tup, vwk_lst, vr1_, vr2_, vzp_tt, vzp_ll, vsb_tup, vsb_lst, vsb_frl, vsb_dic, vsl_tup, vsl_lst, vrv_lst, vsk_abs, vjn_s, vsg_, vcx_cl, vfi_rt, vfi_nx, List.getElem?_cons_zero, List.getElem?_cons_succ, List.set_cons_zero, List.set_cons_succ, Option.map_some, Option.map_none, Option.bind_some, List.length_cons, List.length_nil, Nat.reduceAdd, Nat.reduceLT, Nat.reduceSub, reduceIte, Bool.not_true, Bool.not_false, Bool.and_true, Bool.true_and, Bool.and_false, Bool.false_and, Bool.or_true, Bool.true_or, Bool.or_false, Bool.false_or, vcx_sg, Bool.false_eq_true, if_false, if_true, List.nil_append, String.reduceBEq, String.reduceEq, is_clause_of_lc k _ n hs, bls_map, all_id, e, h, cut1, ← List.map_tail, zip_map', e2, List.nil_append]
    simp [clB, h, ascB]
theorem is_clause_of_non (k : Nat) (d : D) (n : Int) (hs : shd d = true) (h : tyD d ≠ "tuple") : callK tab (k + 3) "is_clause_of" [d, .int n] = .ok (.bl false) [] := by
  have h' : (tyD d == "tuple") = false := by simpa using h
  simp only [c_is_clause_of, b_is_clause_of, eev_cst, eev_var, eev_tupD, eev_lstD, eev_dic0, eev_bin, eev_neg, eev_cmp, eev_isN, eev_chn, eev_notE, eev_andE, eev_orE, eev_ite, eev_sub, eev_slc, eev_rev, eev_call, eev_bi, eev_isi, eev_lc, eev_dc, eev_sortK, eevs_nil, eevs_cons, eevO_no, eevO_so, eevT_tru, eevT_nt, eevT_an, eevT_or, eevL_ex, eevL_rng1, eevL_rng2, eevL_zip, eex_set, eex_par, eex_setI, eex_app, eex_exp, eex_ifs, eex_fr, eex_ret, eex_retN, eex_never, eexs_nil, eexs_cons, vmk_var, vmk_cst, vmk_tupD, vmk_lstD, vmk_dic0, vmk_bin, vmk_neg, vmk_cmp, vmk_isN, vmk_chn, vmk_notE, vmk_andE, vmk_orE, vmk_ite, vmk_sub, vmk_slc, vmk_rev, vmk_call, vmk_bi, vmk_isi, vmk_lc, vmk_dc, vmk_sortK, vbd_ok, vbd_st, vts_ok, vsq_nx, vsq_rt, vnx_ok, voO_some, vb1_bl, vgt_val, vgt_slot, vgs_nil, vgs_cons, vrv_, vso_nil, vso_val, vso_slot, vo1_, vo2_, voN_, voL_, vsu_, vag_nm, vag_tp, vsa_nil, vsa_cons, vwp_nil, vwp_cons, vbk_nil, vbk_cons, var_nil, var_val, var_slot, var_mut, vbo_nil, vbo_false, vbo_true, vpm_nil, vpm_cons, vco_, vevTo_no, vevTo_so, vsp_, vil_, vap_, vou_nil, vou_false, vou_true, vsh_tup, vsh_int, vsh_bl, vsh_non, vsh_str, vsh_frl, vsh_lst, vsh_dic, vsr_tup, vsr_int, vsr_bl, vsr_non, vsr_str, vsr_frl, vsr_lstF, vsr_lstT, vsr_dicF, vsr_dicT, vss_int, vss_nil, vss_cons, vbn_add, vbn_sub, vbn_mul, vbn_pow, vbn_mod, vbn_div, vbn_tup, vbn_lst, vcm_lt, vcm_le, vcm_gt, vcm_ge, vcm_eq, vcm_ne, vcm_eqB, vcm_neB, vcm_in, vcm_notin, vcm_eqT, vcm_neT, vcm_eqL, vcm_neL, vtr_bl, vtr_int, vtr_tup, vtr_lst, vtr_non, vno_, vng_, viN_non, viN_tup, viN_int, viN_bl, viN_str, viN_lst, viN_dic, vii_int, vii_bool, vii_str, vii_tuple, vii_list, vii_dict, vty_non, vty_bl, vty_int, vty_str, vty_tup, vty_lst, vty_frl, vty_dic, vbi_lenT, vbi_lenL, vbi_lenF, vbi_lenD, vbi_abs, vbi_intI, vbi_intB, vbi_max2, vbi_min2, vbi_maxL, vbi_minL, vbi_sum, vbi_all, vbi_any, vbi_listT, vbi_listL, vbi_tupT, vbi_tupL, vbi_sortL, vbi_sortD, vwk_tup, vwk_lst, vr1_, vr2_, vzp_tt, vzp_ll, vsb_tup, vsb_lst, vsb_frl, vsb_dic, vsl_tup, vsl_lst, vrv_lst, vsk_abs, vjn_s, vsg_, vcx_cl, vfi_rt, vfi_nx, List.getElem?_cons_zero, List.getElem?_cons_succ, List.set_cons_zero, List.set_cons_succ, Option.map_some, Option.map_none, Option.bind_some, List.length_cons, List.length_nil, Nat.reduceAdd, Nat.reduceLT, Nat.reduceSub, reduceIte, Bool.not_true, Bool.not_false, Bool.and_true, Bool.true_and, Bool.and_false, Bool.false_and, Bool.or_true, Bool.true_or, Bool.or_false, Bool.false_or, vcx_sg, Bool.false_eq_true, if_false, if_true, List.nil_append, String.reduceBEq, String.reduceEq, hs, h']

theorem check_many_ok (k : Nat) (n : Int) (h : 1 ≤ n) : callK tab (k + 2) "check_many" [.int n] = .ok .non [] := by
  have h' : decide (n < 1) = false := decide_eq_false (by omega)
  simp only [c_check_many, b_check_many, eev_cst, eev_var, eev_tupD, eev_lstD, eev_dic0, eev_bin, eev_neg, eev_cmp, eev_isN, eev_chn, eev_notE, eev_andE, eev_orE, eev_ite, eev_sub, eev_slc, eev_rev, eev_call, eev_bi, eev_isi, eev_lc, eev_dc, eev_sortK, eevs_nil, eevs_cons, eevO_no, eevO_so, eevT_tru, eevT_nt, eevT_an, eevT_or, eevL_ex, eevL_rng1, eevL_rng2, eevL_zip, eex_set, eex_par, eex_setI, eex_app, eex_exp, eex_ifs, eex_fr, eex_ret, eex_retN, eex_never, eexs_nil, eexs_cons, vmk_var, vmk_cst, vmk_tupD, vmk_lstD, vmk_dic0, vmk_bin, vmk_neg, vmk_cmp, vmk_isN, vmk_chn, vmk_notE, vmk_andE, vmk_orE, vmk_ite, vmk_sub, vmk_slc, vmk_rev, vmk_call, vmk_bi, vmk_isi, vmk_lc, vmk_dc, vmk_sortK, vbd_ok, vbd_st, vts_ok, vsq_nx, vsq_rt, vnx_ok, voO_some, vb1_bl, vgt_val, vgt_slot, vgs_nil, vgs_cons, vrv_, vso_nil, vso_val, vso_slot, vo1_, vo2_, voN_, voL_, vsu_, vag_nm, vag_tp, vsa_nil, vsa_cons, vwp_nil, vwp_cons, vbk_nil, vbk_cons, var_nil, var_val, var_slot, var_mut, vbo_nil, vbo_false, vbo_true, vpm_nil, vpm_cons, vco_, vevTo_no, vevTo_so, vsp_, vil_, vap_, vou_nil, vou_false, vou_true, vsh_tup, vsh_int, vsh_bl, vsh_non, vsh_str, vsh_frl, vsh_lst, vsh_dic, vsr_tup, vsr_int, vsr_bl, vsr_non, vsr_str, vsr_frl, vsr_lstF, vsr_lstT, vsr_dicF, vsr_dicT, vss_int, vss_nil, vss_cons, vbn_add, vbn_sub, vbn_mul, vbn_pow, vbn_mod, vbn_div, vbn_tup, vbn_lst, vcm_lt, vcm_le, vcm_gt, vcm_ge, vcm_eq, vcm_ne, vcm_eqB, vcm_neB, vcm_in, vcm_notin, vcm_eqT, vcm_neT, vcm_eqL, vcm_neL, vtr_bl, vtr_int, vtr_tup, vtr_lst, vtr_non, vno_, vng_, viN_non, viN_tup, viN_int, viN_bl, viN_str, viN_lst, viN_dic, vii_int, vii_bool, vii_str, vii_tuple, vii_list, vii_dict, vty_non, vty_bl, vty_int, vty_str, vty_tup, vty_lst, vty_frl, vty_dic, vbi_lenT, vbi_lenL, vbi_lenF, vbi_lenD, vbi_abs, vbi_intI, vbi_intB, vbi_max2, vbi_min2, vbi_maxL, vbi_minL, vbi_sum, vbi_all, vbi_any, vbi_listT, vbi_listL, vbi_tupT, vbi_tupL, vbi_sortL, vbi_sortD, vwk_tup, vwk_lst, vr1_, vr2_, vzp_tt, vzp_ll, vsb_tup, vsb_lst, vsb_frl, vsb_dic, vsl_tup, vsl_lst, vrv_lst, vsk_abs, vjn_s, vsg_, vcx_cl, vfi_rt, vfi_nx, List.getElem?_cons_zero, List.getElem?_cons_succ, List.set_cons_zero, List.set_cons_succ, Option.map_some, Option.map_none, Option.bind_some, List.length_cons, List.length_nil, Nat.reduceAdd, Nat.reduceLT, Nat.reduceSub, reduceIte, Bool.not_true, Bool.not_false, Bool.and_true, Bool.true_and, Bool.and_false, Bool.false_and, Bool.or_true, Bool.true_or, Bool.or_false, Bool.false_or, vcx_sg, Bool.false_eq_true, if_false, if_true, List.nil_append, String.reduceBEq, String.reduceEq, t_is_integer, g_is_integer, is_integer_ok, isI, h']
theorem is_clause_T (k : Nat) (l : List Int) (n : Int) (h : 1 ≤ n) : callK tab (k + 4) "is_clause" [.int n, T l] = .ok (.bl (clB n l)) [] := by
  simp only [c_is_clause, b_is_clause, eev_cst, eev_var, eev_tupD, eev_lstD, eev_dic0, eev_bin, eev_neg, eev_cmp, eev_isN, eev_chn, eev_notE, eev_andE, eev_orE, eev_ite, eev_sub, eev_slc, eev_rev, eev_call, eev_bi, eev_isi, eev_lc, eev_dc, eev_sortK, eevs_nil, eevs_cons, eevO_no, eevO_so, eevT_tru, eevT_nt, eevT_an, eevT_or, eevL_ex, eevL_rng1, eevL_rng2, eevL_zip, eex_set, eex_par, eex_setI, eex_app, eex_exp, eex_ifs, eex_fr, eex_ret, eex_retN, eex_never, eexs_nil, eexs_cons, vmk_var, vmk_cst, vmk_tupD, vmk_lstD, vmk_dic0, vmk_bin, vmk_neg, vmk_cmp, vmk_isN, vmk_chn, vmk_notE, vmk_andE, vmk_orE, vmk_ite, vmk_sub, vmk_slc, vmk_rev, vmk_call, vmk_bi, vmk_isi, vmk_lc, vmk_dc, vmk_sortK, vbd_ok, vbd_st, vts_ok, vsq_nx, vsq_rt, vnx_ok, voO_some, vb1_bl, vgt_val, vgt_slot, vgs_nil, vgs_cons, vrv_, vso_nil, vso_val, vso_slot, vo1_, vo2_, voN_, voL_, vsu_, vag_nm, vag_tp, vsa_nil, vsa_cons, vwp_nil, vwp_cons, vbk_nil, vbk_cons, var_nil, var_val, var_slot, var_mut, vbo_nil, vbo_false, vbo_true, vpm_nil, vpm_cons, vco_, vevTo_no, vevTo_so, vsp_, vil_, vap_, vou_nil, vou_false, vou_true, vsh_tup, vsh_int, vsh_bl, vsh_non, vsh_str, vsh_frl, vsh_lst, vsh_dic, vsr_tup, vsr_int, vsr_bl, vsr_non, vsr_str, vsr_frl, vsr_lstF, vsr_lstT, vsr_dicF, vsr_dicT, vss_int, vss_nil, vss_cons, vbn_add, vbn_sub, vbn_mul, vbn_pow, vbn_mod, vbn_div, vbn_tup, vbn_lst, vcm_lt, vcm_le, vcm_gt, vcm_ge, vcm_eq, vcm_ne, vcm_eqB, vcm_neB, vcm_in, vcm_notin, vcm_eqT, vcm_neT, vcm_eqL, vcm_neL, vtr_bl, vtr_int, vtr_tup, vtr_lst, vtr_non, vno_, vng_, viN_non, viN_tup, viN_int, viN_bl, viN_str, viN_lst, viN_dic, vii_int, vii_bool, vii_str, vii_tuple, vii_list, vii_dict, vty_non, vty_bl, vty_int, vty_str, vty_tup, vty_lst, vty_frl, vty_dic, vbi_lenT, vbi_lenL, vbi_lenF, vbi_lenD, vbi_abs, vbi_intI, vbi_intB, vbi_max2, vbi_min2, vbi_maxL, vbi_minL, vbi_sum, vbi_all, vbi_any, vbi_listT, vbi_listL, vbi_tupT, vbi_tupL, vbi_sortL, vbi_sortD, vwk_tup, vwk_lst, vr1_, vr2_, vzp_tt, vzp_ll, vsb_tup, vsb_lst, vsb_frl, vsb_dic, vsl_tup, vsl_lst, vrv_lst, vsk_abs, vjn_s, vsg_, vcx_cl, vfi_rt, vfi_nx, List.getElem?_cons_zero, List.getElem?_cons_succ, List.set_cons_zero, List.set_cons_succ, Option.map_some, Option.map_none, Option.bind_some, List.length_cons, List.length_nil, Nat.reduceAdd, Nat.reduceLT, Nat.reduceSub, reduceIte, Bool.not_true, Bool.not_false, Bool.and_true, Bool.true_and, Bool.and_false, Bool.false_and, Bool.or_true, Bool.true_or, Bool.or_false, Bool.false_or, vcx_sg, Bool.false_eq_true, if_false, if_true, List.nil_append, String.reduceBEq, String.reduceEq, t_check_many, g_check_many, check_many_ok _ n h, t_is_clause_of, g_is_clause_of, is_clause_of_T]
theorem is_clause_lit (k : Nat) (ds : List D) (n : Int) (h : 1 ≤ n) (hs : ds.all shd = true) (hl : ds.all (litD n) = false) : callK tab (k + 4) "is_clause" [.int n, .tup ds] = .ok (.bl false) [] := by
  simp only [c_is_clause, b_is_clause, eev_cst, eev_var, eev_tupD, eev_lstD, eev_dic0, eev_bin, eev_neg, eev_cmp, eev_isN, eev_chn, eev_notE, eev_andE, eev_orE, eev_ite, eev_sub, eev_slc, eev_rev, eev_call, eev_bi, eev_isi, eev_lc, eev_dc, eev_sortK, eevs_nil, eevs_cons, eevO_no, eevO_so, eevT_tru, eevT_nt, eevT_an, eevT_or, eevL_ex, eevL_rng1, eevL_rng2, eevL_zip, eex_set, eex_par, eex_setI, eex_app, eex_exp, eex_ifs, eex_fr, eex_ret, eex_retN, eex_never, eexs_nil, eexs_cons, vmk_var, vmk_cst, vmk_tupD, vmk_lstD, vmk_dic0, vmk_bin, vmk_neg, vmk_cmp, vmk_isN, vmk_chn, vmk_notE, vmk_andE, vmk_orE, vmk_ite, vmk_sub, vmk_slc, vmk_rev, vmk_call, vmk_bi, vmk_isi, vmk_lc, vmk_dc, vmk_sortK, vbd_ok, vbd_st, vts_ok, vsq_nx, vsq_rt, vnx_ok, voO_some, vb1_bl, vgt_val, vgt_slot, vgs_nil, vgs_cons, vrv_, vso_nil, vso_val, vso_slot, vo1_, vo2_, voN_, voL_, vsu_, vag_nm, vag_tp, vsa_nil, vsa_cons, vwp_nil, vwp_cons, vbk_nil, vbk_cons, var_nil, var_val, var_slot, var_mut, vbo_nil, vbo_false, vbo_true, vpm_nil, vpm_cons, vco_, vevTo_no, vevTo_so, vsp_, vil_, vap_, vou_nil, vou_false, vou_true, vsh_tup, vsh_int, vsh_bl, vsh_non, vsh_str, vsh_frl, vsh_lst, vsh_dic, vsr_tup, vsr_int, vsr_bl, vsr_non, vsr_str, vsr_frl, vsr_lstF, vsr_lstT, vsr_dicF, vsr_dicT, vss_int, vss_nil, vss_cons, vbn_add, vbn_sub, vbn_mul, vbn_pow, vbn_mod, vbn_div, vbn_tup, vbn_lst, vcm_lt, vcm_le, vcm_gt, vcm_ge, vcm_eq, vcm_ne, vcm_eqB, vcm_neB, vcm_in, vcm_notin, vcm_eqT, vcm_neT, vcm_eqL, vcm_neL, vtr_bl, vtr_int, vtr_tup, vtr_lst, vtr_non, vno_, vng_, viN_non, viN_tup, viN_int, viN_bl, viN_str, viN_lst, viN_dic, vii_int, vii_bool, vii_str, vii_tuple, vii_list, vii_dict, vty_non, vty_bl, vty_int, vty_str, vty_tup, vty_lst, vty_frl, vty_dic, vbi_lenT, vbi_lenL, vbi_lenF, vbi_lenD, vbi_abs, vbi_intI, vbi_intB, vbi_max2, vbi_min2, vbi_maxL, vbi_minL, vbi_sum, vbi_all, vbi_any, vbi_listT, vbi_listL, vbi_tupT, vbi_tupL, vbi_sortL, vbi_sortD, vwk_tup, vwk_lst, vr1_, vr2_, vzp_tt, vzp_ll, vsb_tup, vsb_lst, vsb_frl, vsb_dic, vsl_tup, vsl_lst, vrv_lst, vsk_abs, vjn_s, vsg_, vcx_cl, vfi_rt, vfi_nx, List.getElem?_cons_zero, List.getElem?_cons_succ, List.set_cons_zero, List.set_cons_succ, Option.map_some, Option.map_none, Option.bind_some, List.length_cons, List.length_nil, Nat.reduceAdd, Nat.reduceLT, Nat.reduceSub, reduceIte, Bool.not_true, Bool.not_false, Bool.and_true, Bool.true_and, Bool.and_false, Bool.false_and, Bool.or_true, Bool.true_or, Bool.or_false, Bool.false_or, vcx_sg, Bool.false_eq_true, if_false, if_true, List.nil_append, String.reduceBEq, String.reduceEq, t_check_many, g_check_many, check_many_ok _ n h, t_is_clause_of, g_is_clause_of, is_clause_of_lit _ ds n hs hl]
theorem is_clause_non (k : Nat) (d : D) (n : Int) (h : 1 ≤ n) (hs : shd d = true) (ht : tyD d ≠ "tuple") : callK tab (k + 4) "is_clause" [.int n, d] = .ok (.bl false) [] := by
  simp only [c_is_clause, b_is_clause, eev_cst, eev_var, eev_tupD, eev_lstD, eev_dic0, eev_bin, eev_neg, eev_cmp, eev_isN, eev_chn, eev_notE, eev_andE, eev_orE, eev_ite, eev_sub, eev_slc, eev_rev, eev_call, eev_bi, eev_isi, eev_lc, eev_dc, eev_sortK, eevs_nil, eevs_cons, eevO_no, eevO_so, eevT_tru, eevT_nt, eevT_an, eevT_or, eevL_ex, eevL_rng1, eevL_rng2, eevL_zip, eex_set, eex_par, eex_setI, eex_app, eex_exp, eex_ifs, eex_fr, eex_ret, eex_retN, eex_never, eexs_nil, eexs_cons, vmk_var, vmk_cst, vmk_tupD, vmk_lstD, vmk_dic0, vmk_bin, vmk_neg, vmk_cmp, vmk_isN, vmk_chn, vmk_notE, vmk_andE, vmk_orE, vmk_ite, vmk_sub, vmk_slc, vmk_rev, vmk_call, vmk_bi, vmk_isi, vmk_lc, vmk_dc, vmk_sortK, vbd_ok, vbd_st, vts_ok, vsq_nx, vsq_rt, vnx_ok, voO_some, vb1_bl, vgt_val, vgt_slot, vgs_nil, vgs_cons, vrv_, vso_nil, vso_val, vso_slot, vo1_, vo2_, voN_, voL_, vsu_, vag_nm, vag_tp, vsa_nil, vsa_cons, vwp_nil, vwp_cons, vbk_nil, vbk_cons, var_nil, var_val, var_slot, var_mut, vbo_nil, vbo_false, vbo_true, vpm_nil, vpm_cons, vco_, vevTo_no, vevTo_so, vsp_, vil_, vap_, vou_nil, vou_false, vou_true, vsh_tup, vsh_int, vsh_bl, vsh_non, vsh_str, vsh_frl, vsh_lst, vsh_dic, vsr_tup, vsr_int, vsr_bl, vsr_non, vsr_str, vsr_frl, vsr_lstF, vsr_lstT, vsr_dicF, vsr_dicT, vss_int, vss_nil, vss_cons, vbn_add, vbn_sub, vbn_mul, vbn_pow, vbn_mod, vbn_div, vbn_tup, vbn_lst, vcm_lt, vcm_le, vcm_gt, vcm_ge, vcm_eq, vcm_ne, vcm_eqB, vcm_neB, vcm_in, vcm_notin, vcm_eqT, vcm_neT, vcm_eqL, vcm_neL, vtr_bl, vtr_int, vtr_tup, vtr_lst, vtr_non, vno_, vng_, viN_non, viN_tup, viN_int, viN_bl, viN_str, viN_lst, viN_dic, vii_int, vii_bool, vii_str, vii_tuple, vii_list, vii_dict, vty_non, vty_bl, vty_int, vty_str, vty_tup, vty_lst, vty_frl, vty_dic, vbi_lenT, vbi_lenL, vbi_lenF, vbi_lenD, vbi_abs, vbi_intI, vbi_intB, vbi_max2, vbi_min2, vbi_maxL, vbi_minL, vbi_sum, vbi_all, vbi_any, vbi_listT, vbi_listL, vbi_tupT, vbi_tupL, vbi_sortL, vbi_sortD, vwk_tup, vwk_lst, vr1_, vr2_, vzp_tt, vzp_ll, vsb_tup, vsb_lst, vsb_frl, vsb_dic, vsl_tup, vsl_lst, vrv_lst, vsk_abs, vjn_s, vsg_, vcx_cl, vfi_rt, vfi_nx, List.getElem?_cons_zero, List.getElem?_cons_succ, List.set_cons_zero, List.set_cons_succ, Option.map_some, Option.map_none, Option.bind_some, List.length_cons, List.length_nil, Nat.reduceAdd, Nat.reduceLT, Nat.reduceSub, reduceIte, Bool.not_true, Bool.not_false, Bool.and_true, Bool.true_and, Bool.and_false, Bool.false_and, Bool.or_true, Bool.true_or, Bool.or_false, Bool.false_or, vcx_sg, Bool.false_eq_true, if_false, if_true, List.nil_append, String.reduceBEq, String.reduceEq, hs, t_check_many, g_check_many, check_many_ok _ n h, t_is_clause_of, g_is_clause_of, is_clause_of_non _ d n hs ht]
theorem all_true {α : Type} (l : List α) : (l.all fun _ => true) = true := by simp
theorem max_cl {n : Int} {l : List Int} (h : Cl n l) : clB (maxI (0 :: l.map ab)) l = true :=
  clB_iff.mpr (h.le fun x hx => CL.maxI_ge (List.mem_cons_of_mem _ (List.mem_map.mpr ⟨x, hx, rfl⟩)))
theorem lc_abs (c : DE.Ctx) (l : List Int) (v : Nat) (ρ : DE.Env) (h : ∀ x ∈ l, ∃ ρ1 ρ2, asg (.nm v) (.int x) ρ = some ρ1 ∧ ev c (.bi "abs" (.cons (.var v) .nil)) ρ1 = .ok (.int (ab x)) ρ2 ∧ wipeE ρ2 [v] = ρ) : lcL [v] (.nm v) none (ev c (.bi "abs" (.cons (.var v) .nil))) (l.map .int) [] ρ = .ok ((l.map ab).map .int) ρ := by
  rw [lcL_map D.int (fun x => .int (ab x)) l [] h, List.nil_append, List.map_map]; rfl
theorem check_any_clause_ok (k : Nat) {n : Int} {l : List Int} (h : Cl n l) (hl : l.length ≤ 16) : callK tab (k + 4) "check_any_clause" [T l] = .ok .non [] := by
  have e1 := lcL_map (own := [2]) (tg := .nm 2) (el := ev (cxT tab (k + 3)) (.call "is_integer" (.cons (.var 2) .nil) [0])) D.int (fun _ => .bl true) (ρ := [some (T l), none, none]) l [] (fun x hx => by
    refine ⟨_, [some (T l), none, some (.int x)], rfl, ?_, rfl⟩
    simp only [eev_cst, eev_var, eev_tupD, eev_lstD, eev_dic0, eev_bin, eev_neg, eev_cmp, eev_isN, eev_chn, eev_notE, eev_andE, eev_orE, eev_ite, eev_sub, eev_slc, eev_rev, eev_call, eev_bi, eev_isi, eev_lc, eev_dc, eev_sortK, eevs_nil, eevs_cons, eevO_no, eevO_so, eevT_tru, eevT_nt, eevT_an, eevT_or, eevL_ex, eevL_rng1, eevL_rng2, eevL_zip, eex_set, eex_par, eex_setI, eex_app, eex_exp, eex_ifs, eex_fr, eex_ret, eex_retN, eex_never, eexs_nil, eexs_cons, vmk_var, vmk_cst, vmk_tupD, vmk_lstD, vmk_dic0, vmk_bin, vmk_neg, vmk_cmp, vmk_isN, vmk_chn, vmk_notE, vmk_andE, vmk_orE, vmk_ite, vmk_sub, vmk_slc, vmk_rev, vmk_call, vmk_bi, vmk_isi, vmk_lc, vmk_dc, vmk_sortK, vbd_ok, vbd_st, vts_ok, vsq_nx, vsq_rt, vnx_ok, voO_some, vb1_bl, vgt_val, vgt_slot, vgs_nil, vgs_cons, vrv_, vso_nil, vso_val, vso_slot, vo1_, vo2_, voN_, voL_, vsu_, vag_nm, vag_tp, vsa_nil, vsa_cons, vwp_nil, vwp_cons, vbk_nil, vbk_cons, var_nil, var_val, var_slot, var_mut, vbo_nil, vbo_false, vbo_true, vpm_nil, vpm_cons, vco_, vevTo_no, vevTo_so, vsp_, vil_, vap_, vou_nil, vou_false, vou_true, vsh_tup, vsh_int, vsh_bl, vsh_non, vsh_str, vsh_frl, vsh_lst, vsh_dic, vsr_tup, vsr_int, vsr_bl, vsr_non, vsr_str, vsr_frl, vsr_lstF, vsr_lstT, vsr_dicF, vsr_dicT, vss_int, vss_nil, vss_cons, vbn_add, vbn_sub, vbn_mul, vbn_pow, vbn_mod, vbn_div, vbn_tup, vbn_lst, vcm_lt, vcm_le, vcm_gt, vcm_ge, vcm_eq, vcm_ne, vcm_eqB, vcm_neB, vcm_in, vcm_notin, vcm_eqT, vcm_neT, vcm_eqL, vcm_neL, vtr_bl, vtr_int, vtr_tup, vtr_lst, vtr_non, vno_, vng_, viN_non, viN_tup, viN_int, viN_bl, viN_str, viN_lst, viN_dic, vii_int, vii_bool, vii_str, vii_tuple, vii_list, vii_dict, vty_non, vty_bl, vty_int, vty_str, vty_tup, vty_lst, vty_frl, vty_dic, vbi_lenT, vbi_lenL, vbi_lenF, vbi_lenD, vbi_abs, vbi_intI, vbi_intB, vbi_max2, vbi_min2, vbi_maxL, vbi_minL, vbi_sum, vbi_all, vbi_any, vbi_listT, vbi_listL, vbi_tupT, vbi_tupL, vbi_sortL, vbi_sortD, vwk_tup, vwk_lst, vr1_, vr2_, vzp_tt, vzp_ll, vsb_tup, vsb_lst, vsb_frl, vsb_dic, vsl_tup, vsl_lst, vrv_lst, vsk_abs, vjn_s, vsg_, vcx_cl, vfi_rt, vfi_nx, List.getElem?_cons_zero, List.getElem?_cons_succ, List.set_cons_zero, List.set_cons_succ, Option.map_some, Option.map_none, Option.bind_some, List.length_cons, List.length_nil, Nat.reduceAdd, Nat.reduceLT, Nat.reduceSub, reduceIte, Bool.not_true, Bool.not_false, Bool.and_true, Bool.true_and, Bool.and_false, Bool.false_and, Bool.or_true, Bool.true_or, Bool.or_false, Bool.false_or, vcx_sg, Bool.false_eq_true, if_false, if_true, List.nil_append, String.reduceBEq, String.reduceEq, t_is_integer, g_is_integer, is_integer_ok, isI])
  have e2 := lc_abs (cxT tab (k + 3)) l 2 [some (T l), some (.bl true), none] (fun x hx => by
    refine ⟨_, [some (T l), some (.bl true), some (.int x)], rfl, ?_, rfl⟩
    simp only [eev_cst, eev_var, eev_tupD, eev_lstD, eev_dic0, eev_bin, eev_neg, eev_cmp, eev_isN, eev_chn, eev_notE, eev_andE, eev_orE, eev_ite, eev_sub, eev_slc, eev_rev, eev_call, eev_bi, eev_isi, eev_lc, eev_dc, eev_sortK, eevs_nil, eevs_cons, eevO_no, eevO_so, eevT_tru, eevT_nt, eevT_an, eevT_or, eevL_ex, eevL_rng1, eevL_rng2, eevL_zip, eex_set, eex_par, eex_setI, eex_app, eex_exp, eex_ifs, eex_fr, eex_ret, eex_retN, eex_never, eexs_nil, eexs_cons, vmk_var, vmk_cst, vmk_tupD, vmk_lstD, vmk_dic0, vmk_bin, vmk_neg, vmk_cmp, vmk_isN, vmk_chn, vmk_notE, vmk_andE, vmk_orE, vmk_ite, vmk_sub, vmk_slc, vmk_rev, vmk_call, vmk_bi, vmk_isi, vmk_lc, vmk_dc, vmk_sortK, vbd_ok, vbd_st, vts_ok, vsq_nx, vsq_rt, vnx_ok, voO_some, vb1_bl, vgt_val, vgt_slot, vgs_nil, vgs_cons, vrv_, vso_nil, vso_val, vso_slot, vo1_, vo2_, voN_, voL_, vsu_, vag_nm, vag_tp, vsa_nil, vsa_cons, vwp_nil, vwp_cons, vbk_nil, vbk_cons, var_nil, var_val, var_slot, var_mut, vbo_nil, vbo_false, vbo_true, vpm_nil, vpm_cons, vco_, vevTo_no, vevTo_so, vsp_, vil_, vap_, vou_nil, vou_false, vou_true, vsh_tup, vsh_int, vsh_bl, vsh_non, vsh_str, vsh_frl, vsh_lst, vsh_dic, vsr_tup, vsr_int, vsr_bl, vsr_non, vsr_str, vsr_frl, vsr_lstF, vsr_lstT, vsr_dicF, vsr_dicT, vss_int, vss_nil, vss_cons, vbn_add, vbn_sub, vbn_mul, vbn_pow, vbn_mod, vbn_div, vbn_tup, vbn_lst, vcm_lt, vcm_le, vcm_gt, vcm_ge, vcm_eq, vcm_ne, vcm_eqB, vcm_neB, vcm_in, vcm_notin, vcm_eqT, vcm_neT, vcm_eqL, vcm_neL, vtr_bl, vtr_int, vtr_tup, vtr_lst, vtr_non, vno_, vng_, viN_non, viN_tup, viN_int, viN_bl, viN_str, viN_lst, viN_dic, vii_int, vii_bool, vii_str, vii_tuple, vii_list, vii_dict, vty_non, vty_bl, vty_int, vty_str, vty_tup, vty_lst, vty_frl, vty_dic, vbi_lenT, vbi_lenL, vbi_lenF, vbi_lenD, vbi_abs, vbi_intI, vbi_intB, vbi_max2, vbi_min2, vbi_maxL, vbi_minL, vbi_sum, vbi_all, vbi_any, vbi_listT, vbi_listL, vbi_tupT, vbi_tupL, vbi_sortL, vbi_sortD, vwk_tup, vwk_lst, vr1_, vr2_, vzp_tt, vzp_ll, vsb_tup, vsb_lst, vsb_frl, vsb_dic, vsl_tup, vsl_lst, vrv_lst, vsk_abs, vjn_s, vsg_, vcx_cl, vfi_rt, vfi_nx, List.getElem?_cons_zero, List.getElem?_cons_succ, List.set_cons_zero, List.set_cons_succ, Option.map_some, Option.map_none, Option.bind_some, List.length_cons, List.length_nil, Nat.reduceAdd, Nat.reduceLT, Nat.reduceSub, reduceIte, Bool.not_true, Bool.not_false, Bool.and_true, Bool.true_and, Bool.and_false, Bool.false_and, Bool.or_true, Bool.true_or, Bool.or_false, Bool.false_or, vcx_sg, Bool.false_eq_true, if_false, if_true, List.nil_append, String.reduceBEq, String.reduceEq]; rfl)
  have e3 : intsOf (D.int 0 :: (l.map ab).map D.int) = some (0 :: l.map ab) := ints_map (0 :: l.map ab)
  have e6 : ((l.map ab).map D.int).all shd = true := all_shd _ (fun _ => rfl) _
  simp (disch := omega) only [c_check_any_clause, b_check_any_clause, eev_cst, eev_var, eev_tupD, eev_lstD, eev_dic0, eev_bin, eev_neg, eev_cmp, eev_isN, eev_chn, eev_notE, eev_andE, eev_orE, eev_ite, eev_sub, eev_slc, eev_rev, eev_call, eev_bi, eev_isi, eev_lc, eev_dc, eev_sortK, eevs_nil, eevs_cons, eevO_no, eevO_so, eevT_tru, eevT_nt, eevT_an, eevT_or, eevL_ex, eevL_rng1, eevL_rng2, eevL_zip, eex_set, eex_par, eex_setI, eex_app, eex_exp, eex_ifs, eex_fr, eex_ret, eex_retN, eex_never, eexs_nil, eexs_cons, vmk_var, vmk_cst, vmk_tupD, vmk_lstD, vmk_dic0, vmk_bin, vmk_neg, vmk_cmp, vmk_isN, vmk_chn, vmk_notE, vmk_andE, vmk_orE, vmk_ite, vmk_sub, vmk_slc, vmk_rev, vmk_call, vmk_bi, vmk_isi, vmk_lc, vmk_dc, vmk_sortK, vbd_ok, vbd_st, vts_ok, vsq_nx, vsq_rt, vnx_ok, voO_some, vb1_bl, vgt_val, vgt_slot, vgs_nil, vgs_cons, vrv_, vso_nil, vso_val, vso_slot, vo1_, vo2_, voN_, voL_, vsu_, vag_nm, vag_tp, vsa_nil, vsa_cons, vwp_nil, vwp_cons, vbk_nil, vbk_cons, var_nil, var_val, var_slot, var_mut, vbo_nil, vbo_false, vbo_true, vpm_nil, vpm_cons, vco_, vevTo_no, vevTo_so, vsp_, vil_, vap_, vou_nil, vou_false, vou_true, vsh_tup, vsh_int, vsh_bl, vsh_non, vsh_str, vsh_frl, vsh_lst, vsh_dic, vsr_tup, vsr_int, vsr_bl, vsr_non, vsr_str, vsr_frl, vsr_lstF, vsr_lstT, vsr_dicF, vsr_dicT, vss_int, vss_nil, vss_cons, vbn_add, vbn_sub, vbn_mul, vbn_pow, vbn_mod, vbn_div, vbn_tup, vbn_lst, vcm_lt, vcm_le, vcm_gt, vcm_ge, vcm_eq, vcm_ne, vcm_eqB, vcm_neB, vcm_in, vcm_notin, vcm_eqT, vcm_neT, vcm_eqL, vcm_neL, vtr_bl, vtr_int, vtr_tup, vtr_lst, vtr_non, vno_, vng_, viN_non, viN_tup, viN_int, viN_bl, viN_str, viN_lst, viN_dic, vii_int, vii_bool, vii_str, vii_tuple, vii_list, vii_dict, vty_non, vty_bl, vty_int, vty_str, vty_tup, vty_lst, vty_frl, vty_dic, vbi_lenT, vbi_lenL, vbi_lenF, vbi_lenD, vbi_abs, vbi_intI, vbi_intB, vbi_max2, vbi_min2, vbi_maxL, vbi_minL, vbi_sum, vbi_all, vbi_any, vbi_listT, vbi_listL, vbi_tupT, vbi_tupL, vbi_sortL, vbi_sortD, vwk_tup, vwk_lst, vr1_, vr2_, vzp_tt, vzp_ll, vsb_tup, vsb_lst, vsb_frl, vsb_dic, vsl_tup, vsl_lst, vrv_lst, vsk_abs, vjn_s, vsg_, vcx_cl, vfi_rt, vfi_nx, List.getElem?_cons_zero, List.getElem?_cons_succ, List.set_cons_zero, List.set_cons_succ, Option.map_some, Option.map_none, Option.bind_some, List.length_cons, List.length_nil, Nat.reduceAdd, Nat.reduceLT, Nat.reduceSub, reduceIte, Bool.not_true, Bool.not_false, Bool.and_true, Bool.true_and, Bool.and_false, Bool.false_and, Bool.or_true, Bool.true_or, Bool.or_false, Bool.false_or, vcx_sg, Bool.false_eq_true, if_false, if_true, List.nil_append, String.reduceBEq, String.reduceEq, e1, e2, e6, bls_map, all_id, all_true, vsz_, List.length_map, List.all_cons, List.all_nil, List.cons_append, List.isEmpty_cons, e3, t_is_clause_of, g_is_clause_of, is_clause_of_T, max_cl h]
theorem eqD_int (i j : Int) : eqD (.int i) (.int j) = decide (i = j) := by
  have := eqD_kD (.inl i) (.inl j)
  rw [show kD (.inl i) = .int i from rfl, show kD (.inl j) = .int j from rfl] at this
  rw [this]; simp
def cvP (p : Int × Int) : D × D := (.int p.1, .int p.2)
theorem putD_int (m : List (Int × Int)) (k v : Int) : putD (m.map cvP) (.int k) (.int v) = (putI m k v).map cvP := by
  have ha : ((m.map cvP).any fun p => eqD p.1 (.int k)) = m.any fun p => p.1 == k := by
    rw [List.any_map]
    refine congrArg (fun f => m.any f) (funext fun p => ?_)
    show eqD (.int p.1) (.int k) = _
    rw [eqD_int]; rfl
  unfold putD putI
  rw [ha]
  split
  · rw [List.map_map, List.map_map]
    refine List.map_congr_left fun p _ => ?_
    show (if eqD (.int p.1) (.int k) then _ else _) = cvP (if p.1 == k then _ else _)
    rw [eqD_int]
    by_cases h : p.1 = k <;> simp [h, cvP]
  · rw [List.map_append]; rfl
theorem keyD_int (m : List (Int × Int)) (k : Int) : keyD (m.map cvP) (.int k) = (lookI m k).map .int := by
  unfold keyD lookI
  induction m with
  | nil => rfl
  | cons p r ih =>
    have e : eqD (cvP p).1 (.int k) = (p.1 == k) := (eqD_int p.1 k).trans rfl
    rw [List.map_cons, List.find?_cons, List.find?_cons, e]
    cases h : p.1 == k with
    | true => rfl
    | false => exact ih
theorem dic_fold (l : List Int) (m : List (Int × Int)) : l.foldl (fun d x => putD d (.int (ab x)) (.int x)) (m.map cvP) = (l.foldl (fun m x => putI m (ab x) x) m).map cvP := by
  induction l generalizing m with
  | nil => rfl
  | cons x r ih => rw [List.foldl_cons, List.foldl_cons, putD_int, ih]
theorem okEq_ints (l : List Int) : (l.map D.int).all (okEq 60) = true := by
  rw [List.all_map]; simp [okEq]
theorem in_int (x : Int) (l : List Int) : inD (.int x) (T l) = some (l.contains x) := by
  show (if okEq 60 (.int x) && (l.map D.int).all (okEq 60) then some ((l.map D.int).any fun y => eqD y (.int x)) else none) = _
  rw [okEq_ints, if_pos (show (okEq 60 (.int x) && true) = true from rfl), List.any_map]
  congr 1
  induction l with
  | nil => rfl
  | cons a r ih =>
    simp only [List.any_cons, List.contains_cons, ih, Function.comp, eqD_int]
    congr 1
    by_cases h : a = x
    · subst h; simp
    · have h' : ¬ x = a := fun e => h e.symm
      simp [h, h']
/-- what resolution says, as data -/
def RD (a b : List Int) : D := match made a b with
  | some c => T c
  | none => .non
theorem putI_length (m : List (Int × Int)) (k v : Int) : (putI m k v).length ≤ m.length + 1 := by
  unfold putI; split <;> simp
theorem fold_length (l : List Int) (m : List (Int × Int)) : (l.foldl (fun m x => putI m (ab x) x) m).length ≤ m.length + l.length := by
  induction l generalizing m with
  | nil => simp
  | cons x r ih => rw [List.foldl_cons]; have := ih (putI m (ab x) x); have := putI_length m (ab x) x; simp only [List.length_cons]; omega
theorem keys_int (m : List (Int × Int)) : (m.map cvP).map (·.1) = (m.map (·.1)).map D.int := by rw [List.map_map, List.map_map]; rfl
theorem lookI_nd {m : List (Int × Int)} {k : Int} (h : k ∈ m.map (·.1)) : lookI m k = some ((lookI m k).getD 0) := by
  obtain ⟨p, hp, e⟩ := List.mem_map.mp h
  unfold lookI
  cases hf : m.find? (fun p => p.1 == k) with
  | none => exact absurd e (by have := List.find?_eq_none.mp hf p hp; simpa using this)
  | some q => rfl
/-- sorted by variables, looked up -/
def resM (m : List (Int × Int)) : List Int := (isort (m.map (·.1))).map fun k => (lookI m k).getD 0
theorem lc_res (c : DE.Ctx) (m : List (Int × Int)) (o0 o1 o2 o4 : Option D) : lcL [5] (.nm 5) none (ev c (.sub (.var 3) (.var 5))) ((isort (m.map (·.1))).map .int) [] [o0, o1, o2, some (.dic true (m.map cvP)), o4, none] = .ok ((resM m).map .int) [o0, o1, o2, some (.dic true (m.map cvP)), o4, none] := by
  have e := lcL_map (own := [5]) (tg := .nm 5) (el := ev c (.sub (.var 3) (.var 5))) D.int (fun k => .int ((lookI m k).getD 0)) (ρ := [o0, o1, o2, some (.dic true (m.map cvP)), o4, none]) (isort (m.map (·.1))) [] (fun k hk => by
    refine ⟨_, [o0, o1, o2, some (.dic true (m.map cvP)), o4, some (.int k)], rfl, ?_, rfl⟩
    obtain ⟨v, hv⟩ : ∃ v, lookI m k = some v := ⟨_, lookI_nd (mem_isort.mp hk)⟩
    simp only [eev_cst, eev_var, eev_tupD, eev_lstD, eev_dic0, eev_bin, eev_neg, eev_cmp, eev_isN, eev_chn, eev_notE, eev_andE, eev_orE, eev_ite, eev_sub, eev_slc, eev_rev, eev_call, eev_bi, eev_isi, eev_lc, eev_dc, eev_sortK, eevs_nil, eevs_cons, eevO_no, eevO_so, eevT_tru, eevT_nt, eevT_an, eevT_or, eevL_ex, eevL_rng1, eevL_rng2, eevL_zip, eex_set, eex_par, eex_setI, eex_app, eex_exp, eex_ifs, eex_fr, eex_ret, eex_retN, eex_never, eexs_nil, eexs_cons, vmk_var, vmk_cst, vmk_tupD, vmk_lstD, vmk_dic0, vmk_bin, vmk_neg, vmk_cmp, vmk_isN, vmk_chn, vmk_notE, vmk_andE, vmk_orE, vmk_ite, vmk_sub, vmk_slc, vmk_rev, vmk_call, vmk_bi, vmk_isi, vmk_lc, vmk_dc, vmk_sortK, vbd_ok, vbd_st, vts_ok, vsq_nx, vsq_rt, vnx_ok, voO_some, vb1_bl, vgt_val, vgt_slot, vgs_nil, vgs_cons, vrv_, vso_nil, vso_val, vso_slot, vo1_, vo2_, voN_, voL_, vsu_, vag_nm, vag_tp, vsa_nil, vsa_cons, vwp_nil, vwp_cons, vbk_nil, vbk_cons, var_nil, var_val, var_slot, var_mut, vbo_nil, vbo_false, vbo_true, vpm_nil, vpm_cons, vco_, vevTo_no, vevTo_so, vsp_, vil_, vap_, vou_nil, vou_false, vou_true, vsh_tup, vsh_int, vsh_bl, vsh_non, vsh_str, vsh_frl, vsh_lst, vsh_dic, vsr_tup, vsr_int, vsr_bl, vsr_non, vsr_str, vsr_frl, vsr_lstF, vsr_lstT, vsr_dicF, vsr_dicT, vss_int, vss_nil, vss_cons, vbn_add, vbn_sub, vbn_mul, vbn_pow, vbn_mod, vbn_div, vbn_tup, vbn_lst, vcm_lt, vcm_le, vcm_gt, vcm_ge, vcm_eq, vcm_ne, vcm_eqB, vcm_neB, vcm_in, vcm_notin, vcm_eqT, vcm_neT, vcm_eqL, vcm_neL, vtr_bl, vtr_int, vtr_tup, vtr_lst, vtr_non, vno_, vng_, viN_non, viN_tup, viN_int, viN_bl, viN_str, viN_lst, viN_dic, vii_int, vii_bool, vii_str, vii_tuple, vii_list, vii_dict, vty_non, vty_bl, vty_int, vty_str, vty_tup, vty_lst, vty_frl, vty_dic, vbi_lenT, vbi_lenL, vbi_lenF, vbi_lenD, vbi_abs, vbi_intI, vbi_intB, vbi_max2, vbi_min2, vbi_maxL, vbi_minL, vbi_sum, vbi_all, vbi_any, vbi_listT, vbi_listL, vbi_tupT, vbi_tupL, vbi_sortL, vbi_sortD, vwk_tup, vwk_lst, vr1_, vr2_, vzp_tt, vzp_ll, vsb_tup, vsb_lst, vsb_frl, vsb_dic, vsl_tup, vsl_lst, vrv_lst, vsk_abs, vjn_s, vsg_, vcx_cl, vfi_rt, vfi_nx, List.getElem?_cons_zero, List.getElem?_cons_succ, List.set_cons_zero, List.set_cons_succ, Option.map_some, Option.map_none, Option.bind_some, List.length_cons, List.length_nil, Nat.reduceAdd, Nat.reduceLT, Nat.reduceSub, reduceIte, Bool.not_true, Bool.not_false, Bool.and_true, Bool.true_and, Bool.and_false, Bool.false_and, Bool.or_true, Bool.true_or, Bool.or_false, Bool.false_or, vcx_sg, Bool.false_eq_true, if_false, if_true, List.nil_append, String.reduceBEq, String.reduceEq, isKey, keyD_int, hv, Option.getD_some])
  rw [List.nil_append] at e
  have e2 : ((isort (m.map (·.1))).map fun k => D.int ((lookI m k).getD 0)) = (resM m).map .int := by rw [resM, List.map_map]; rfl
  rwa [e2] at e
theorem shd_ints (l : List Int) : (l.map D.int).all shd = true := all_shd _ (fun _ => rfl) _
theorem made_of_ok (k : Nat) (a b : List Int) (ha : a.length ≤ 16) (hb : b.length ≤ 16) : callK tab (k + 1) "made_of" [T a, T b] = .ok (RD a b) [] := by
  have e1 : lcL [4] (.nm 4) (some (evT (cxT tab k) (.tru (.cmp .In (.neg (.var 4)) (.var 1))))) (ev (cxT tab k) (.var 4)) (a.map .int) [] [some (T a), some (T b), none, none, none, none] = .ok ((tn a b).map .int) [some (T a), some (T b), none, none, none, none] :=
    lcL_fil (own := [4]) (tg := .nm 4) (t := evT (cxT tab k) (.tru (.cmp .In (.neg (.var 4)) (.var 1)))) (el := ev (cxT tab k) (.var 4)) D.int D.int (fun x => b.contains (-x)) (ρ := [some (T a), some (T b), none, none, none, none]) a [] (fun x hx => by
    refine ⟨_, [some (T a), some (T b), none, none, some (.int x), none], rfl, ?_, fun _ => ⟨[some (T a), some (T b), none, none, some (.int x), none], ?_, rfl⟩, fun _ => rfl⟩
    · simp only [eev_cst, eev_var, eev_tupD, eev_lstD, eev_dic0, eev_bin, eev_neg, eev_cmp, eev_isN, eev_chn, eev_notE, eev_andE, eev_orE, eev_ite, eev_sub, eev_slc, eev_rev, eev_call, eev_bi, eev_isi, eev_lc, eev_dc, eev_sortK, eevs_nil, eevs_cons, eevO_no, eevO_so, eevT_tru, eevT_nt, eevT_an, eevT_or, eevL_ex, eevL_rng1, eevL_rng2, eevL_zip, eex_set, eex_par, eex_setI, eex_app, eex_exp, eex_ifs, eex_fr, eex_ret, eex_retN, eex_never, eexs_nil, eexs_cons, vmk_var, vmk_cst, vmk_tupD, vmk_lstD, vmk_dic0, vmk_bin, vmk_neg, vmk_cmp, vmk_isN, vmk_chn, vmk_notE, vmk_andE, vmk_orE, vmk_ite, vmk_sub, vmk_slc, vmk_rev, vmk_call, vmk_bi, vmk_isi, vmk_lc, vmk_dc, vmk_sortK, vbd_ok, vbd_st, vts_ok, vsq_nx, vsq_rt, vnx_ok, voO_some, vb1_bl, vgt_val, vgt_slot, vgs_nil, vgs_cons, vrv_, vso_nil, vso_val, vso_slot, vo1_, vo2_, voN_, voL_, vsu_, vag_nm, vag_tp, vsa_nil, vsa_cons, vwp_nil, vwp_cons, vbk_nil, vbk_cons, var_nil, var_val, var_slot, var_mut, vbo_nil, vbo_false, vbo_true, vpm_nil, vpm_cons, vco_, vevTo_no, vevTo_so, vsp_, vil_, vap_, vou_nil, vou_false, vou_true, vsh_tup, vsh_int, vsh_bl, vsh_non, vsh_str, vsh_frl, vsh_lst, vsh_dic, vsr_tup, vsr_int, vsr_bl, vsr_non, vsr_str, vsr_frl, vsr_lstF, vsr_lstT, vsr_dicF, vsr_dicT, vss_int, vss_nil, vss_cons, vbn_add, vbn_sub, vbn_mul, vbn_pow, vbn_mod, vbn_div, vbn_tup, vbn_lst, vcm_lt, vcm_le, vcm_gt, vcm_ge, vcm_eq, vcm_ne, vcm_eqB, vcm_neB, vcm_in, vcm_notin, vcm_eqT, vcm_neT, vcm_eqL, vcm_neL, vtr_bl, vtr_int, vtr_tup, vtr_lst, vtr_non, vno_, vng_, viN_non, viN_tup, viN_int, viN_bl, viN_str, viN_lst, viN_dic, vii_int, vii_bool, vii_str, vii_tuple, vii_list, vii_dict, vty_non, vty_bl, vty_int, vty_str, vty_tup, vty_lst, vty_frl, vty_dic, vbi_lenT, vbi_lenL, vbi_lenF, vbi_lenD, vbi_abs, vbi_intI, vbi_intB, vbi_max2, vbi_min2, vbi_maxL, vbi_minL, vbi_sum, vbi_all, vbi_any, vbi_listT, vbi_listL, vbi_tupT, vbi_tupL, vbi_sortL, vbi_sortD, vwk_tup, vwk_lst, vr1_, vr2_, vzp_tt, vzp_ll, vsb_tup, vsb_lst, vsb_frl, vsb_dic, vsl_tup, vsl_lst, vrv_lst, vsk_abs, vjn_s, vsg_, vcx_cl, vfi_rt, vfi_nx, List.getElem?_cons_zero, List.getElem?_cons_succ, List.set_cons_zero, List.set_cons_succ, Option.map_some, Option.map_none, Option.bind_some, List.length_cons, List.length_nil, Nat.reduceAdd, Nat.reduceLT, Nat.reduceSub, reduceIte, Bool.not_true, Bool.not_false, Bool.and_true, Bool.true_and, Bool.and_false, Bool.false_and, Bool.or_true, Bool.true_or, Bool.or_false, Bool.false_or, vcx_sg, Bool.false_eq_true, if_false, if_true, List.nil_append, String.reduceBEq, String.reduceEq, in_int]
    · simp only [eev_cst, eev_var, eev_tupD, eev_lstD, eev_dic0, eev_bin, eev_neg, eev_cmp, eev_isN, eev_chn, eev_notE, eev_andE, eev_orE, eev_ite, eev_sub, eev_slc, eev_rev, eev_call, eev_bi, eev_isi, eev_lc, eev_dc, eev_sortK, eevs_nil, eevs_cons, eevO_no, eevO_so, eevT_tru, eevT_nt, eevT_an, eevT_or, eevL_ex, eevL_rng1, eevL_rng2, eevL_zip, eex_set, eex_par, eex_setI, eex_app, eex_exp, eex_ifs, eex_fr, eex_ret, eex_retN, eex_never, eexs_nil, eexs_cons, vmk_var, vmk_cst, vmk_tupD, vmk_lstD, vmk_dic0, vmk_bin, vmk_neg, vmk_cmp, vmk_isN, vmk_chn, vmk_notE, vmk_andE, vmk_orE, vmk_ite, vmk_sub, vmk_slc, vmk_rev, vmk_call, vmk_bi, vmk_isi, vmk_lc, vmk_dc, vmk_sortK, vbd_ok, vbd_st, vts_ok, vsq_nx, vsq_rt, vnx_ok, voO_some, vb1_bl, vgt_val, vgt_slot, vgs_nil, vgs_cons, vrv_, vso_nil, vso_val, vso_slot, vo1_, vo2_, voN_, voL_, vsu_, vag_nm, vag_tp, vsa_nil, vsa_cons, vwp_nil, vwp_cons, vbk_nil, vbk_cons, var_nil, var_val, var_slot, var_mut, vbo_nil, vbo_false, vbo_true, vpm_nil, vpm_cons, vco_, vevTo_no, vevTo_so, vsp_, vil_, vap_, vou_nil, vou_false, vou_true, vsh_tup, vsh_int, vsh_bl, vsh_non, vsh_str, vsh_frl, vsh_lst, vsh_dic, vsr_tup, vsr_int, vsr_bl, vsr_non, vsr_str, vsr_frl, vsr_lstF, vsr_lstT, vsr_dicF, vsr_dicT, vss_int, vss_nil, vss_cons, vbn_add, vbn_sub, vbn_mul, vbn_pow, vbn_mod, vbn_div, vbn_tup, vbn_lst, vcm_lt, vcm_le, vcm_gt, vcm_ge, vcm_eq, vcm_ne, vcm_eqB, vcm_neB, vcm_in, vcm_notin, vcm_eqT, vcm_neT, vcm_eqL, vcm_neL, vtr_bl, vtr_int, vtr_tup, vtr_lst, vtr_non, vno_, vng_, viN_non, viN_tup, viN_int, viN_bl, viN_str, viN_lst, viN_dic, vii_int, vii_bool, vii_str, vii_tuple, vii_list, vii_dict, vty_non, vty_bl, vty_int, vty_str, vty_tup, vty_lst, vty_frl, vty_dic, vbi_lenT, vbi_lenL, vbi_lenF, vbi_lenD, vbi_abs, vbi_intI, vbi_intB, vbi_max2, vbi_min2, vbi_maxL, vbi_minL, vbi_sum, vbi_all, vbi_any, vbi_listT, vbi_listL, vbi_tupT, vbi_tupL, vbi_sortL, vbi_sortD, vwk_tup, vwk_lst, vr1_, vr2_, vzp_tt, vzp_ll, vsb_tup, vsb_lst, vsb_frl, vsb_dic, vsl_tup, vsl_lst, vrv_lst, vsk_abs, vjn_s, vsg_, vcx_cl, vfi_rt, vfi_nx, List.getElem?_cons_zero, List.getElem?_cons_succ, List.set_cons_zero, List.set_cons_succ, Option.map_some, Option.map_none, Option.bind_some, List.length_cons, List.length_nil, Nat.reduceAdd, Nat.reduceLT, Nat.reduceSub, reduceIte, Bool.not_true, Bool.not_false, Bool.and_true, Bool.true_and, Bool.and_false, Bool.false_and, Bool.or_true, Bool.true_or, Bool.or_false, Bool.false_or, vcx_sg, Bool.false_eq_true, if_false, if_true, List.nil_append, String.reduceBEq, String.reduceEq])
  simp only [c_made_of, b_made_of, eev_cst, eev_var, eev_tupD, eev_lstD, eev_dic0, eev_bin, eev_neg, eev_cmp, eev_isN, eev_chn, eev_notE, eev_andE, eev_orE, eev_ite, eev_sub, eev_slc, eev_rev, eev_call, eev_bi, eev_isi, eev_lc, eev_dc, eev_sortK, eevs_nil, eevs_cons, eevO_no, eevO_so, eevT_tru, eevT_nt, eevT_an, eevT_or, eevL_ex, eevL_rng1, eevL_rng2, eevL_zip, eex_set, eex_par, eex_setI, eex_app, eex_exp, eex_ifs, eex_fr, eex_ret, eex_retN, eex_never, eexs_nil, eexs_cons, vmk_var, vmk_cst, vmk_tupD, vmk_lstD, vmk_dic0, vmk_bin, vmk_neg, vmk_cmp, vmk_isN, vmk_chn, vmk_notE, vmk_andE, vmk_orE, vmk_ite, vmk_sub, vmk_slc, vmk_rev, vmk_call, vmk_bi, vmk_isi, vmk_lc, vmk_dc, vmk_sortK, vbd_ok, vbd_st, vts_ok, vsq_nx, vsq_rt, vnx_ok, voO_some, vb1_bl, vgt_val, vgt_slot, vgs_nil, vgs_cons, vrv_, vso_nil, vso_val, vso_slot, vo1_, vo2_, voN_, voL_, vsu_, vag_nm, vag_tp, vsa_nil, vsa_cons, vwp_nil, vwp_cons, vbk_nil, vbk_cons, var_nil, var_val, var_slot, var_mut, vbo_nil, vbo_false, vbo_true, vpm_nil, vpm_cons, vco_, vevTo_no, vevTo_so, vsp_, vil_, vap_, vou_nil, vou_false, vou_true, vsh_tup, vsh_int, vsh_bl, vsh_non, vsh_str, vsh_frl, vsh_lst, vsh_dic, vsr_tup, vsr_int, vsr_bl, vsr_non, vsr_str, vsr_frl, vsr_lstF, vsr_lstT, vsr_dicF, vsr_dicT, vss_int, vss_nil, vss_cons, vbn_add, vbn_sub, vbn_mul, vbn_pow, vbn_mod, vbn_div, vbn_tup, vbn_lst, vcm_lt, vcm_le, vcm_gt, vcm_ge, vcm_eq, vcm_ne, vcm_eqB, vcm_neB, vcm_in, vcm_notin, vcm_eqT, vcm_neT, vcm_eqL, vcm_neL, vtr_bl, vtr_int, vtr_tup, vtr_lst, vtr_non, vno_, vng_, viN_non, viN_tup, viN_int, viN_bl, viN_str, viN_lst, viN_dic, vii_int, vii_bool, vii_str, vii_tuple, vii_list, vii_dict, vty_non, vty_bl, vty_int, vty_str, vty_tup, vty_lst, vty_frl, vty_dic, vbi_lenT, vbi_lenL, vbi_lenF, vbi_lenD, vbi_abs, vbi_intI, vbi_intB, vbi_max2, vbi_min2, vbi_maxL, vbi_minL, vbi_sum, vbi_all, vbi_any, vbi_listT, vbi_listL, vbi_tupT, vbi_tupL, vbi_sortL, vbi_sortD, vwk_tup, vwk_lst, vr1_, vr2_, vzp_tt, vzp_ll, vsb_tup, vsb_lst, vsb_frl, vsb_dic, vsl_tup, vsl_lst, vrv_lst, vsk_abs, vjn_s, vsg_, vcx_cl, vfi_rt, vfi_nx, List.getElem?_cons_zero, List.getElem?_cons_succ, List.set_cons_zero, List.set_cons_succ, Option.map_some, Option.map_none, Option.bind_some, List.length_cons, List.length_nil, Nat.reduceAdd, Nat.reduceLT, Nat.reduceSub, reduceIte, Bool.not_true, Bool.not_false, Bool.and_true, Bool.true_and, Bool.and_false, Bool.false_and, Bool.or_true, Bool.true_or, Bool.or_false, Bool.false_or, vcx_sg, Bool.false_eq_true, if_false, if_true, List.nil_append, String.reduceBEq, String.reduceEq, e1, List.length_map]
  unfold RD made
  cases h : tn a b with
  | nil => simp only [eev_cst, eev_var, eev_tupD, eev_lstD, eev_dic0, eev_bin, eev_neg, eev_cmp, eev_isN, eev_chn, eev_notE, eev_andE, eev_orE, eev_ite, eev_sub, eev_slc, eev_rev, eev_call, eev_bi, eev_isi, eev_lc, eev_dc, eev_sortK, eevs_nil, eevs_cons, eevO_no, eevO_so, eevT_tru, eevT_nt, eevT_an, eevT_or, eevL_ex, eevL_rng1, eevL_rng2, eevL_zip, eex_set, eex_par, eex_setI, eex_app, eex_exp, eex_ifs, eex_fr, eex_ret, eex_retN, eex_never, eexs_nil, eexs_cons, vmk_var, vmk_cst, vmk_tupD, vmk_lstD, vmk_dic0, vmk_bin, vmk_neg, vmk_cmp, vmk_isN, vmk_chn, vmk_notE, vmk_andE, vmk_orE, vmk_ite, vmk_sub, vmk_slc, vmk_rev, vmk_call, vmk_bi, vmk_isi, vmk_lc, vmk_dc, vmk_sortK, vbd_ok, vbd_st, vts_ok, vsq_nx, vsq_rt, vnx_ok, voO_some, vb1_bl, vgt_val, vgt_slot, vgs_nil, vgs_cons, vrv_, vso_nil, vso_val, vso_slot, vo1_, vo2_, voN_, voL_, vsu_, vag_nm, vag_tp, vsa_nil, vsa_cons, vwp_nil, vwp_cons, vbk_nil, vbk_cons, var_nil, var_val, var_slot, var_mut, vbo_nil, vbo_false, vbo_true, vpm_nil, vpm_cons, vco_, vevTo_no, vevTo_so, vsp_, vil_, vap_, vou_nil, vou_false, vou_true, vsh_tup, vsh_int, vsh_bl, vsh_non, vsh_str, vsh_frl, vsh_lst, vsh_dic, vsr_tup, vsr_int, vsr_bl, vsr_non, vsr_str, vsr_frl, vsr_lstF, vsr_lstT, vsr_dicF, vsr_dicT, vss_int, vss_nil, vss_cons, vbn_add, vbn_sub, vbn_mul, vbn_pow, vbn_mod, vbn_div, vbn_tup, vbn_lst, vcm_lt, vcm_le, vcm_gt, vcm_ge, vcm_eq, vcm_ne, vcm_eqB, vcm_neB, vcm_in, vcm_notin, vcm_eqT, vcm_neT, vcm_eqL, vcm_neL, vtr_bl, vtr_int, vtr_tup, vtr_lst, vtr_non, vno_, vng_, viN_non, viN_tup, viN_int, viN_bl, viN_str, viN_lst, viN_dic, vii_int, vii_bool, vii_str, vii_tuple, vii_list, vii_dict, vty_non, vty_bl, vty_int, vty_str, vty_tup, vty_lst, vty_frl, vty_dic, vbi_lenT, vbi_lenL, vbi_lenF, vbi_lenD, vbi_abs, vbi_intI, vbi_intB, vbi_max2, vbi_min2, vbi_maxL, vbi_minL, vbi_sum, vbi_all, vbi_any, vbi_listT, vbi_listL, vbi_tupT, vbi_tupL, vbi_sortL, vbi_sortD, vwk_tup, vwk_lst, vr1_, vr2_, vzp_tt, vzp_ll, vsb_tup, vsb_lst, vsb_frl, vsb_dic, vsl_tup, vsl_lst, vrv_lst, vsk_abs, vjn_s, vsg_, vcx_cl, vfi_rt, vfi_nx, List.getElem?_cons_zero, List.getElem?_cons_succ, List.set_cons_zero, List.set_cons_succ, Option.map_some, Option.map_none, Option.bind_some, List.length_cons, List.length_nil, Nat.reduceAdd, Nat.reduceLT, Nat.reduceSub, reduceIte, Bool.not_true, Bool.not_false, Bool.and_true, Bool.true_and, Bool.and_false, Bool.false_and, Bool.or_true, Bool.true_or, Bool.or_false, Bool.false_or, vcx_sg, Bool.false_eq_true, if_false, if_true, List.nil_append, String.reduceBEq, String.reduceEq, List.length_nil]; rfl
  | cons t r =>
    cases r with
    | cons u r =>
      have hn : decide (((r.length + 1 + 1 : Nat) : Int) = 1) = false := decide_eq_false (by omega)
      simp only [eev_cst, eev_var, eev_tupD, eev_lstD, eev_dic0, eev_bin, eev_neg, eev_cmp, eev_isN, eev_chn, eev_notE, eev_andE, eev_orE, eev_ite, eev_sub, eev_slc, eev_rev, eev_call, eev_bi, eev_isi, eev_lc, eev_dc, eev_sortK, eevs_nil, eevs_cons, eevO_no, eevO_so, eevT_tru, eevT_nt, eevT_an, eevT_or, eevL_ex, eevL_rng1, eevL_rng2, eevL_zip, eex_set, eex_par, eex_setI, eex_app, eex_exp, eex_ifs, eex_fr, eex_ret, eex_retN, eex_never, eexs_nil, eexs_cons, vmk_var, vmk_cst, vmk_tupD, vmk_lstD, vmk_dic0, vmk_bin, vmk_neg, vmk_cmp, vmk_isN, vmk_chn, vmk_notE, vmk_andE, vmk_orE, vmk_ite, vmk_sub, vmk_slc, vmk_rev, vmk_call, vmk_bi, vmk_isi, vmk_lc, vmk_dc, vmk_sortK, vbd_ok, vbd_st, vts_ok, vsq_nx, vsq_rt, vnx_ok, voO_some, vb1_bl, vgt_val, vgt_slot, vgs_nil, vgs_cons, vrv_, vso_nil, vso_val, vso_slot, vo1_, vo2_, voN_, voL_, vsu_, vag_nm, vag_tp, vsa_nil, vsa_cons, vwp_nil, vwp_cons, vbk_nil, vbk_cons, var_nil, var_val, var_slot, var_mut, vbo_nil, vbo_false, vbo_true, vpm_nil, vpm_cons, vco_, vevTo_no, vevTo_so, vsp_, vil_, vap_, vou_nil, vou_false, vou_true, vsh_tup, vsh_int, vsh_bl, vsh_non, vsh_str, vsh_frl, vsh_lst, vsh_dic, vsr_tup, vsr_int, vsr_bl, vsr_non, vsr_str, vsr_frl, vsr_lstF, vsr_lstT, vsr_dicF, vsr_dicT, vss_int, vss_nil, vss_cons, vbn_add, vbn_sub, vbn_mul, vbn_pow, vbn_mod, vbn_div, vbn_tup, vbn_lst, vcm_lt, vcm_le, vcm_gt, vcm_ge, vcm_eq, vcm_ne, vcm_eqB, vcm_neB, vcm_in, vcm_notin, vcm_eqT, vcm_neT, vcm_eqL, vcm_neL, vtr_bl, vtr_int, vtr_tup, vtr_lst, vtr_non, vno_, vng_, viN_non, viN_tup, viN_int, viN_bl, viN_str, viN_lst, viN_dic, vii_int, vii_bool, vii_str, vii_tuple, vii_list, vii_dict, vty_non, vty_bl, vty_int, vty_str, vty_tup, vty_lst, vty_frl, vty_dic, vbi_lenT, vbi_lenL, vbi_lenF, vbi_lenD, vbi_abs, vbi_intI, vbi_intB, vbi_max2, vbi_min2, vbi_maxL, vbi_minL, vbi_sum, vbi_all, vbi_any, vbi_listT, vbi_listL, vbi_tupT, vbi_tupL, vbi_sortL, vbi_sortD, vwk_tup, vwk_lst, vr1_, vr2_, vzp_tt, vzp_ll, vsb_tup, vsb_lst, vsb_frl, vsb_dic, vsl_tup, vsl_lst, vrv_lst, vsk_abs, vjn_s, vsg_, vcx_cl, vfi_rt, vfi_nx, List.getElem?_cons_zero, List.getElem?_cons_succ, List.set_cons_zero, List.set_cons_succ, Option.map_some, Option.map_none, Option.bind_some, List.length_cons, List.length_nil, Nat.reduceAdd, Nat.reduceLT, Nat.reduceSub, reduceIte, Bool.not_true, Bool.not_false, Bool.and_true, Bool.true_and, Bool.and_false, Bool.false_and, Bool.or_true, Bool.true_or, Bool.or_false, Bool.false_or, vcx_sg, Bool.false_eq_true, if_false, if_true, List.nil_append, String.reduceBEq, String.reduceEq, hn]
    | nil =>
      have h0 : DE.ixD (0 + 1) 0 = some 0 := rfl
      have e2 := dcL_fil (own := [4]) (tg := .nm 4) (t := evT (cxT tab k) (.tru (.cmp .NotEq (.bi "abs" (.cons (.var 4) .nil)) (.bi "abs" (.cons (.sub (.var 2) (.cst (.int 0))) .nil))))) (ek := ev (cxT tab k) (.bi "abs" (.cons (.var 4) .nil))) (ev := ev (cxT tab k) (.var 4)) D.int (fun x => .int (ab x)) D.int (fun x => !decide (ab x = ab t)) (ρ := [some (T a), some (T b), some (.lst true [.int t]), none, none, none]) (a ++ b) [] (fun x hx => by
        refine ⟨_, [some (T a), some (T b), some (.lst true [.int t]), none, some (.int x), none], rfl, ?_, fun _ => ⟨rfl, rfl, [some (T a), some (T b), some (.lst true [.int t]), none, some (.int x), none], [some (T a), some (T b), some (.lst true [.int t]), none, some (.int x), none], ?_, ?_, rfl⟩, fun _ => rfl⟩
        · simp only [eev_cst, eev_var, eev_tupD, eev_lstD, eev_dic0, eev_bin, eev_neg, eev_cmp, eev_isN, eev_chn, eev_notE, eev_andE, eev_orE, eev_ite, eev_sub, eev_slc, eev_rev, eev_call, eev_bi, eev_isi, eev_lc, eev_dc, eev_sortK, eevs_nil, eevs_cons, eevO_no, eevO_so, eevT_tru, eevT_nt, eevT_an, eevT_or, eevL_ex, eevL_rng1, eevL_rng2, eevL_zip, eex_set, eex_par, eex_setI, eex_app, eex_exp, eex_ifs, eex_fr, eex_ret, eex_retN, eex_never, eexs_nil, eexs_cons, vmk_var, vmk_cst, vmk_tupD, vmk_lstD, vmk_dic0, vmk_bin, vmk_neg, vmk_cmp, vmk_isN, vmk_chn, vmk_notE, vmk_andE, vmk_orE, vmk_ite, vmk_sub, vmk_slc, vmk_rev, vmk_call, vmk_bi, vmk_isi, vmk_lc, vmk_dc, vmk_sortK, vbd_ok, vbd_st, vts_ok, vsq_nx, vsq_rt, vnx_ok, voO_some, vb1_bl, vgt_val, vgt_slot, vgs_nil, vgs_cons, vrv_, vso_nil, vso_val, vso_slot, vo1_, vo2_, voN_, voL_, vsu_, vag_nm, vag_tp, vsa_nil, vsa_cons, vwp_nil, vwp_cons, vbk_nil, vbk_cons, var_nil, var_val, var_slot, var_mut, vbo_nil, vbo_false, vbo_true, vpm_nil, vpm_cons, vco_, vevTo_no, vevTo_so, vsp_, vil_, vap_, vou_nil, vou_false, vou_true, vsh_tup, vsh_int, vsh_bl, vsh_non, vsh_str, vsh_frl, vsh_lst, vsh_dic, vsr_tup, vsr_int, vsr_bl, vsr_non, vsr_str, vsr_frl, vsr_lstF, vsr_lstT, vsr_dicF, vsr_dicT, vss_int, vss_nil, vss_cons, vbn_add, vbn_sub, vbn_mul, vbn_pow, vbn_mod, vbn_div, vbn_tup, vbn_lst, vcm_lt, vcm_le, vcm_gt, vcm_ge, vcm_eq, vcm_ne, vcm_eqB, vcm_neB, vcm_in, vcm_notin, vcm_eqT, vcm_neT, vcm_eqL, vcm_neL, vtr_bl, vtr_int, vtr_tup, vtr_lst, vtr_non, vno_, vng_, viN_non, viN_tup, viN_int, viN_bl, viN_str, viN_lst, viN_dic, vii_int, vii_bool, vii_str, vii_tuple, vii_list, vii_dict, vty_non, vty_bl, vty_int, vty_str, vty_tup, vty_lst, vty_frl, vty_dic, vbi_lenT, vbi_lenL, vbi_lenF, vbi_lenD, vbi_abs, vbi_intI, vbi_intB, vbi_max2, vbi_min2, vbi_maxL, vbi_minL, vbi_sum, vbi_all, vbi_any, vbi_listT, vbi_listL, vbi_tupT, vbi_tupL, vbi_sortL, vbi_sortD, vwk_tup, vwk_lst, vr1_, vr2_, vzp_tt, vzp_ll, vsb_tup, vsb_lst, vsb_frl, vsb_dic, vsl_tup, vsl_lst, vrv_lst, vsk_abs, vjn_s, vsg_, vcx_cl, vfi_rt, vfi_nx, List.getElem?_cons_zero, List.getElem?_cons_succ, List.set_cons_zero, List.set_cons_succ, Option.map_some, Option.map_none, Option.bind_some, List.length_cons, List.length_nil, Nat.reduceAdd, Nat.reduceLT, Nat.reduceSub, reduceIte, Bool.not_true, Bool.not_false, Bool.and_true, Bool.true_and, Bool.and_false, Bool.false_and, Bool.or_true, Bool.true_or, Bool.or_false, Bool.false_or, vcx_sg, Bool.false_eq_true, if_false, if_true, List.nil_append, String.reduceBEq, String.reduceEq, h0]
          rfl
        · simp only [eev_cst, eev_var, eev_tupD, eev_lstD, eev_dic0, eev_bin, eev_neg, eev_cmp, eev_isN, eev_chn, eev_notE, eev_andE, eev_orE, eev_ite, eev_sub, eev_slc, eev_rev, eev_call, eev_bi, eev_isi, eev_lc, eev_dc, eev_sortK, eevs_nil, eevs_cons, eevO_no, eevO_so, eevT_tru, eevT_nt, eevT_an, eevT_or, eevL_ex, eevL_rng1, eevL_rng2, eevL_zip, eex_set, eex_par, eex_setI, eex_app, eex_exp, eex_ifs, eex_fr, eex_ret, eex_retN, eex_never, eexs_nil, eexs_cons, vmk_var, vmk_cst, vmk_tupD, vmk_lstD, vmk_dic0, vmk_bin, vmk_neg, vmk_cmp, vmk_isN, vmk_chn, vmk_notE, vmk_andE, vmk_orE, vmk_ite, vmk_sub, vmk_slc, vmk_rev, vmk_call, vmk_bi, vmk_isi, vmk_lc, vmk_dc, vmk_sortK, vbd_ok, vbd_st, vts_ok, vsq_nx, vsq_rt, vnx_ok, voO_some, vb1_bl, vgt_val, vgt_slot, vgs_nil, vgs_cons, vrv_, vso_nil, vso_val, vso_slot, vo1_, vo2_, voN_, voL_, vsu_, vag_nm, vag_tp, vsa_nil, vsa_cons, vwp_nil, vwp_cons, vbk_nil, vbk_cons, var_nil, var_val, var_slot, var_mut, vbo_nil, vbo_false, vbo_true, vpm_nil, vpm_cons, vco_, vevTo_no, vevTo_so, vsp_, vil_, vap_, vou_nil, vou_false, vou_true, vsh_tup, vsh_int, vsh_bl, vsh_non, vsh_str, vsh_frl, vsh_lst, vsh_dic, vsr_tup, vsr_int, vsr_bl, vsr_non, vsr_str, vsr_frl, vsr_lstF, vsr_lstT, vsr_dicF, vsr_dicT, vss_int, vss_nil, vss_cons, vbn_add, vbn_sub, vbn_mul, vbn_pow, vbn_mod, vbn_div, vbn_tup, vbn_lst, vcm_lt, vcm_le, vcm_gt, vcm_ge, vcm_eq, vcm_ne, vcm_eqB, vcm_neB, vcm_in, vcm_notin, vcm_eqT, vcm_neT, vcm_eqL, vcm_neL, vtr_bl, vtr_int, vtr_tup, vtr_lst, vtr_non, vno_, vng_, viN_non, viN_tup, viN_int, viN_bl, viN_str, viN_lst, viN_dic, vii_int, vii_bool, vii_str, vii_tuple, vii_list, vii_dict, vty_non, vty_bl, vty_int, vty_str, vty_tup, vty_lst, vty_frl, vty_dic, vbi_lenT, vbi_lenL, vbi_lenF, vbi_lenD, vbi_abs, vbi_intI, vbi_intB, vbi_max2, vbi_min2, vbi_maxL, vbi_minL, vbi_sum, vbi_all, vbi_any, vbi_listT, vbi_listL, vbi_tupT, vbi_tupL, vbi_sortL, vbi_sortD, vwk_tup, vwk_lst, vr1_, vr2_, vzp_tt, vzp_ll, vsb_tup, vsb_lst, vsb_frl, vsb_dic, vsl_tup, vsl_lst, vrv_lst, vsk_abs, vjn_s, vsg_, vcx_cl, vfi_rt, vfi_nx, List.getElem?_cons_zero, List.getElem?_cons_succ, List.set_cons_zero, List.set_cons_succ, Option.map_some, Option.map_none, Option.bind_some, List.length_cons, List.length_nil, Nat.reduceAdd, Nat.reduceLT, Nat.reduceSub, reduceIte, Bool.not_true, Bool.not_false, Bool.and_true, Bool.true_and, Bool.and_false, Bool.false_and, Bool.or_true, Bool.true_or, Bool.or_false, Bool.false_or, vcx_sg, Bool.false_eq_true, if_false, if_true, List.nil_append, String.reduceBEq, String.reduceEq]; rfl
        · simp only [eev_cst, eev_var, eev_tupD, eev_lstD, eev_dic0, eev_bin, eev_neg, eev_cmp, eev_isN, eev_chn, eev_notE, eev_andE, eev_orE, eev_ite, eev_sub, eev_slc, eev_rev, eev_call, eev_bi, eev_isi, eev_lc, eev_dc, eev_sortK, eevs_nil, eevs_cons, eevO_no, eevO_so, eevT_tru, eevT_nt, eevT_an, eevT_or, eevL_ex, eevL_rng1, eevL_rng2, eevL_zip, eex_set, eex_par, eex_setI, eex_app, eex_exp, eex_ifs, eex_fr, eex_ret, eex_retN, eex_never, eexs_nil, eexs_cons, vmk_var, vmk_cst, vmk_tupD, vmk_lstD, vmk_dic0, vmk_bin, vmk_neg, vmk_cmp, vmk_isN, vmk_chn, vmk_notE, vmk_andE, vmk_orE, vmk_ite, vmk_sub, vmk_slc, vmk_rev, vmk_call, vmk_bi, vmk_isi, vmk_lc, vmk_dc, vmk_sortK, vbd_ok, vbd_st, vts_ok, vsq_nx, vsq_rt, vnx_ok, voO_some, vb1_bl, vgt_val, vgt_slot, vgs_nil, vgs_cons, vrv_, vso_nil, vso_val, vso_slot, vo1_, vo2_, voN_, voL_, vsu_, vag_nm, vag_tp, vsa_nil, vsa_cons, vwp_nil, vwp_cons, vbk_nil, vbk_cons, var_nil, var_val, var_slot, var_mut, vbo_nil, vbo_false, vbo_true, vpm_nil, vpm_cons, vco_, vevTo_no, vevTo_so, vsp_, vil_, vap_, vou_nil, vou_false, vou_true, vsh_tup, vsh_int, vsh_bl, vsh_non, vsh_str, vsh_frl, vsh_lst, vsh_dic, vsr_tup, vsr_int, vsr_bl, vsr_non, vsr_str, vsr_frl, vsr_lstF, vsr_lstT, vsr_dicF, vsr_dicT, vss_int, vss_nil, vss_cons, vbn_add, vbn_sub, vbn_mul, vbn_pow, vbn_mod, vbn_div, vbn_tup, vbn_lst, vcm_lt, vcm_le, vcm_gt, vcm_ge, vcm_eq, vcm_ne, vcm_eqB, vcm_neB, vcm_in, vcm_notin, vcm_eqT, vcm_neT, vcm_eqL, vcm_neL, vtr_bl, vtr_int, vtr_tup, vtr_lst, vtr_non, vno_, vng_, viN_non, viN_tup, viN_int, viN_bl, viN_str, viN_lst, viN_dic, vii_int, vii_bool, vii_str, vii_tuple, vii_list, vii_dict, vty_non, vty_bl, vty_int, vty_str, vty_tup, vty_lst, vty_frl, vty_dic, vbi_lenT, vbi_lenL, vbi_lenF, vbi_lenD, vbi_abs, vbi_intI, vbi_intB, vbi_max2, vbi_min2, vbi_maxL, vbi_minL, vbi_sum, vbi_all, vbi_any, vbi_listT, vbi_listL, vbi_tupT, vbi_tupL, vbi_sortL, vbi_sortD, vwk_tup, vwk_lst, vr1_, vr2_, vzp_tt, vzp_ll, vsb_tup, vsb_lst, vsb_frl, vsb_dic, vsl_tup, vsl_lst, vrv_lst, vsk_abs, vjn_s, vsg_, vcx_cl, vfi_rt, vfi_nx, List.getElem?_cons_zero, List.getElem?_cons_succ, List.set_cons_zero, List.set_cons_succ, Option.map_some, Option.map_none, Option.bind_some, List.length_cons, List.length_nil, Nat.reduceAdd, Nat.reduceLT, Nat.reduceSub, reduceIte, Bool.not_true, Bool.not_false, Bool.and_true, Bool.true_and, Bool.and_false, Bool.false_and, Bool.or_true, Bool.true_or, Bool.or_false, Bool.false_or, vcx_sg, Bool.false_eq_true, if_false, if_true, List.nil_append, String.reduceBEq, String.reduceEq])
      have e3 : List.foldl (fun m x => putD m (.int (ab x)) (.int x)) [] (List.filter (fun x => !decide (ab x = ab t)) (a ++ b)) = (dicI (oth a b t)).map cvP := dic_fold (oth a b t) []
      rw [e3, List.map_append] at e2
      have hd1 : decide (((1 : Nat) : Int) = 1) = true := rfl
      have hl := fold_length (oth a b t) []
      have hl2 : (oth a b t).length ≤ (a ++ b).length := List.length_filter_le _ _
      rw [List.length_append] at hl2
      have hd : decide ((dicI (oth a b t)).length < 64) = true := decide_eq_true (Nat.lt_of_le_of_lt hl (by simp only [List.length_nil]; omega))
      simp (disch := omega) only [eev_cst, eev_var, eev_tupD, eev_lstD, eev_dic0, eev_bin, eev_neg, eev_cmp, eev_isN, eev_chn, eev_notE, eev_andE, eev_orE, eev_ite, eev_sub, eev_slc, eev_rev, eev_call, eev_bi, eev_isi, eev_lc, eev_dc, eev_sortK, eevs_nil, eevs_cons, eevO_no, eevO_so, eevT_tru, eevT_nt, eevT_an, eevT_or, eevL_ex, eevL_rng1, eevL_rng2, eevL_zip, eex_set, eex_par, eex_setI, eex_app, eex_exp, eex_ifs, eex_fr, eex_ret, eex_retN, eex_never, eexs_nil, eexs_cons, vmk_var, vmk_cst, vmk_tupD, vmk_lstD, vmk_dic0, vmk_bin, vmk_neg, vmk_cmp, vmk_isN, vmk_chn, vmk_notE, vmk_andE, vmk_orE, vmk_ite, vmk_sub, vmk_slc, vmk_rev, vmk_call, vmk_bi, vmk_isi, vmk_lc, vmk_dc, vmk_sortK, vbd_ok, vbd_st, vts_ok, vsq_nx, vsq_rt, vnx_ok, voO_some, vb1_bl, vgt_val, vgt_slot, vgs_nil, vgs_cons, vrv_, vso_nil, vso_val, vso_slot, vo1_, vo2_, voN_, voL_, vsu_, vag_nm, vag_tp, vsa_nil, vsa_cons, vwp_nil, vwp_cons, vbk_nil, vbk_cons, var_nil, var_val, var_slot, var_mut, vbo_nil, vbo_false, vbo_true, vpm_nil, vpm_cons, vco_, vevTo_no, vevTo_so, vsp_, vil_, vap_, vou_nil, vou_false, vou_true, vsh_tup, vsh_int, vsh_bl, vsh_non, vsh_str, vsh_frl, vsh_lst, vsh_dic, vsr_tup, vsr_int, vsr_bl, vsr_non, vsr_str, vsr_frl, vsr_lstF, vsr_lstT, vsr_dicF, vsr_dicT, vss_int, vss_nil, vss_cons, vbn_add, vbn_sub, vbn_mul, vbn_pow, vbn_mod, vbn_div, vbn_tup, vbn_lst, vcm_lt, vcm_le, vcm_gt, vcm_ge, vcm_eq, vcm_ne, vcm_eqB, vcm_neB, vcm_in, vcm_notin, vcm_eqT, vcm_neT, vcm_eqL, vcm_neL, vtr_bl, vtr_int, vtr_tup, vtr_lst, vtr_non, vno_, vng_, viN_non, viN_tup, viN_int, viN_bl, viN_str, viN_lst, viN_dic, vii_int, vii_bool, vii_str, vii_tuple, vii_list, vii_dict, vty_non, vty_bl, vty_int, vty_str, vty_tup, vty_lst, vty_frl, vty_dic, vbi_lenT, vbi_lenL, vbi_lenF, vbi_lenD, vbi_abs, vbi_intI, vbi_intB, vbi_max2, vbi_min2, vbi_maxL, vbi_minL, vbi_sum, vbi_all, vbi_any, vbi_listT, vbi_listL, vbi_tupT, vbi_tupL, vbi_sortL, vbi_sortD, vwk_tup, vwk_lst, vr1_, vr2_, vzp_tt, vzp_ll, vsb_tup, vsb_lst, vsb_frl, vsb_dic, vsl_tup, vsl_lst, vrv_lst, vsk_abs, vjn_s, vsg_, vcx_cl, vfi_rt, vfi_nx, List.getElem?_cons_zero, List.getElem?_cons_succ, List.set_cons_zero, List.set_cons_succ, Option.map_some, Option.map_none, Option.bind_some, List.length_cons, List.length_nil, Nat.reduceAdd, Nat.reduceLT, Nat.reduceSub, reduceIte, Bool.not_true, Bool.not_false, Bool.and_true, Bool.true_and, Bool.and_false, Bool.false_and, Bool.or_true, Bool.true_or, Bool.or_false, Bool.false_or, vcx_sg, Bool.false_eq_true, if_false, if_true, List.nil_append, String.reduceBEq, String.reduceEq, hd1, e2, vsz_, List.length_map, List.map_cons, List.map_nil, hd, keys_int, DE.ints_map, lc_res, shd_ints]
      rfl
theorem resolved_ok (k : Nat) {a b : List Int} {n m : Int} (ha : Cl n a) (hb : Cl m b) (la : a.length ≤ 16) (lb : b.length ≤ 16) : callK tab (k + 5) "resolved" [T a, T b] = .ok (RD a b) [] := by
  simp only [c_resolved, b_resolved, eev_cst, eev_var, eev_tupD, eev_lstD, eev_dic0, eev_bin, eev_neg, eev_cmp, eev_isN, eev_chn, eev_notE, eev_andE, eev_orE, eev_ite, eev_sub, eev_slc, eev_rev, eev_call, eev_bi, eev_isi, eev_lc, eev_dc, eev_sortK, eevs_nil, eevs_cons, eevO_no, eevO_so, eevT_tru, eevT_nt, eevT_an, eevT_or, eevL_ex, eevL_rng1, eevL_rng2, eevL_zip, eex_set, eex_par, eex_setI, eex_app, eex_exp, eex_ifs, eex_fr, eex_ret, eex_retN, eex_never, eexs_nil, eexs_cons, vmk_var, vmk_cst, vmk_tupD, vmk_lstD, vmk_dic0, vmk_bin, vmk_neg, vmk_cmp, vmk_isN, vmk_chn, vmk_notE, vmk_andE, vmk_orE, vmk_ite, vmk_sub, vmk_slc, vmk_rev, vmk_call, vmk_bi, vmk_isi, vmk_lc, vmk_dc, vmk_sortK, vbd_ok, vbd_st, vts_ok, vsq_nx, vsq_rt, vnx_ok, voO_some, vb1_bl, vgt_val, vgt_slot, vgs_nil, vgs_cons, vrv_, vso_nil, vso_val, vso_slot, vo1_, vo2_, voN_, voL_, vsu_, vag_nm, vag_tp, vsa_nil, vsa_cons, vwp_nil, vwp_cons, vbk_nil, vbk_cons, var_nil, var_val, var_slot, var_mut, vbo_nil, vbo_false, vbo_true, vpm_nil, vpm_cons, vco_, vevTo_no, vevTo_so, vsp_, vil_, vap_, vou_nil, vou_false, vou_true, vsh_tup, vsh_int, vsh_bl, vsh_non, vsh_str, vsh_frl, vsh_lst, vsh_dic, vsr_tup, vsr_int, vsr_bl, vsr_non, vsr_str, vsr_frl, vsr_lstF, vsr_lstT, vsr_dicF, vsr_dicT, vss_int, vss_nil, vss_cons, vbn_add, vbn_sub, vbn_mul, vbn_pow, vbn_mod, vbn_div, vbn_tup, vbn_lst, vcm_lt, vcm_le, vcm_gt, vcm_ge, vcm_eq, vcm_ne, vcm_eqB, vcm_neB, vcm_in, vcm_notin, vcm_eqT, vcm_neT, vcm_eqL, vcm_neL, vtr_bl, vtr_int, vtr_tup, vtr_lst, vtr_non, vno_, vng_, viN_non, viN_tup, viN_int, viN_bl, viN_str, viN_lst, viN_dic, vii_int, vii_bool, vii_str, vii_tuple, vii_list, vii_dict, vty_non, vty_bl, vty_int, vty_str, vty_tup, vty_lst, vty_frl, vty_dic, vbi_lenT, vbi_lenL, vbi_lenF, vbi_lenD, vbi_abs, vbi_intI, vbi_intB, vbi_max2, vbi_min2, vbi_maxL, vbi_minL, vbi_sum, vbi_all, vbi_any, vbi_listT, vbi_listL, vbi_tupT, vbi_tupL, vbi_sortL, vbi_sortD, vwk_tup, vwk_lst, vr1_, vr2_, vzp_tt, vzp_ll, vsb_tup, vsb_lst, vsb_frl, vsb_dic, vsl_tup, vsl_lst, vrv_lst, vsk_abs, vjn_s, vsg_, vcx_cl, vfi_rt, vfi_nx, List.getElem?_cons_zero, List.getElem?_cons_succ, List.set_cons_zero, List.set_cons_succ, Option.map_some, Option.map_none, Option.bind_some, List.length_cons, List.length_nil, Nat.reduceAdd, Nat.reduceLT, Nat.reduceSub, reduceIte, Bool.not_true, Bool.not_false, Bool.and_true, Bool.true_and, Bool.and_false, Bool.false_and, Bool.or_true, Bool.true_or, Bool.or_false, Bool.false_or, vcx_sg, Bool.false_eq_true, if_false, if_true, List.nil_append, String.reduceBEq, String.reduceEq, t_check_any_clause, g_check_any_clause, check_any_clause_ok k ha la, check_any_clause_ok k hb lb, t_made_of, g_made_of, made_of_ok _ a b la lb]
end KLaw
namespace KLaw
open PySem PySem.Spec PyProof.Rows L2 DE

open CL
/-! ### the same -/
theorem rngD_len {n : Nat} (h : n ≤ 16777216) : rngD 0 (n : Int) = some ((List.range n).map fun i : Nat => .int (i : Int)) := by
  unfold rngD
  rw [if_pos (by omega)]
  simp
theorem ixD_nat {n i : Nat} (h : i < n) : DE.ixD n (i : Int) = some i := by
  unfold DE.ixD
  rw [if_pos (by omega), if_pos (by omega)]
  simp
/-- a value that is its own share, the same as itself -/
structure Sm (k : Nat) (d : D) : Prop where
  s1 : shd d = true
  s2 : share d = d
  ok : callK tab k "_law_same" [d, d] = .ok (.bl true) []
theorem Sm_non (k : Nat) : Sm (k + 1) .non := ⟨rfl, vsr_non, by simp -implicitDefEqProofs only [c__law_same, b__law_same, eev_cst, eev_var, eev_tupD, eev_lstD, eev_dic0, eev_bin, eev_neg, eev_cmp, eev_isN, eev_chn, eev_notE, eev_andE, eev_orE, eev_ite, eev_sub, eev_slc, eev_rev, eev_call, eev_bi, eev_isi, eev_lc, eev_dc, eev_sortK, eevs_nil, eevs_cons, eevO_no, eevO_so, eevT_tru, eevT_nt, eevT_an, eevT_or, eevL_ex, eevL_rng1, eevL_rng2, eevL_zip, eex_set, eex_par, eex_setI, eex_app, eex_exp, eex_ifs, eex_fr, eex_ret, eex_retN, eex_never, eexs_nil, eexs_cons, vmk_var, vmk_cst, vmk_tupD, vmk_lstD, vmk_dic0, vmk_bin, vmk_neg, vmk_cmp, vmk_isN, vmk_chn, vmk_notE, vmk_andE, vmk_orE, vmk_ite, vmk_sub, vmk_slc, vmk_rev, vmk_call, vmk_bi, vmk_isi, vmk_lc, vmk_dc, vmk_sortK, vbd_ok, vbd_st, vts_ok, vsq_nx, vsq_rt, vnx_ok, voO_some, vb1_bl, vgt_val, vgt_slot, vgs_nil, vgs_cons, vrv_, vso_nil, vso_val, vso_slot, vo1_, vo2_, voN_, voL_, vsu_, vag_nm, vag_tp, vsa_nil, vsa_cons, vwp_nil, vwp_cons, vbk_nil, vbk_cons, var_nil, var_val, var_slot, var_mut, vbo_nil, vbo_false, vbo_true, vpm_nil, vpm_cons, vco_, vevTo_no, vevTo_so, vsp_, vil_, vap_, vou_nil, vou_false, vou_true, vsh_tup, vsh_int, vsh_bl, vsh_non, vsh_str, vsh_frl, vsh_lst, vsh_dic, vsr_tup, vsr_int, vsr_bl, vsr_non, vsr_str, vsr_frl, vsr_lstF, vsr_lstT, vsr_dicF, vsr_dicT, vss_int, vss_nil, vss_cons, vbn_add, vbn_sub, vbn_mul, vbn_pow, vbn_mod, vbn_div, vbn_tup, vbn_lst, vcm_lt, vcm_le, vcm_gt, vcm_ge, vcm_eq, vcm_ne, vcm_eqB, vcm_neB, vcm_in, vcm_notin, vcm_eqT, vcm_neT, vcm_eqL, vcm_neL, vtr_bl, vtr_int, vtr_tup, vtr_lst, vtr_non, vno_, vng_, viN_non, viN_tup, viN_int, viN_bl, viN_str, viN_lst, viN_dic, vii_int, vii_bool, vii_str, vii_tuple, vii_list, vii_dict, vty_non, vty_bl, vty_int, vty_str, vty_tup, vty_lst, vty_frl, vty_dic, vbi_lenT, vbi_lenL, vbi_lenF, vbi_lenD, vbi_abs, vbi_intI, vbi_intB, vbi_max2, vbi_min2, vbi_maxL, vbi_minL, vbi_sum, vbi_all, vbi_any, vbi_listT, vbi_listL, vbi_tupT, vbi_tupL, vbi_sortL, vbi_sortD, vwk_tup, vwk_lst, vr1_, vr2_, vzp_tt, vzp_ll, vsb_tup, vsb_lst, vsb_frl, vsb_dic, vsl_tup, vsl_lst, vrv_lst, vsk_abs, vjn_s, vsg_, vcx_cl, vfi_rt, vfi_nx, List.getElem?_cons_zero, List.getElem?_cons_succ, List.set_cons_zero, List.set_cons_succ, Option.map_some, Option.map_none, Option.bind_some, List.length_cons, List.length_nil, Nat.reduceAdd, Nat.reduceLT, Nat.reduceSub, reduceIte, Bool.not_true, Bool.not_false, Bool.and_true, Bool.true_and, Bool.and_false, Bool.false_and, Bool.or_true, Bool.true_or, Bool.or_false, Bool.false_or, vcx_sg, Bool.false_eq_true, if_false, if_true, List.nil_append, String.reduceBEq, String.reduceEq]⟩
theorem Sm_bl (k : Nat) (b : Bool) : Sm (k + 1) (.bl b) := ⟨rfl, vsr_bl b, by simp -implicitDefEqProofs only [c__law_same, b__law_same, eev_cst, eev_var, eev_tupD, eev_lstD, eev_dic0, eev_bin, eev_neg, eev_cmp, eev_isN, eev_chn, eev_notE, eev_andE, eev_orE, eev_ite, eev_sub, eev_slc, eev_rev, eev_call, eev_bi, eev_isi, eev_lc, eev_dc, eev_sortK, eevs_nil, eevs_cons, eevO_no, eevO_so, eevT_tru, eevT_nt, eevT_an, eevT_or, eevL_ex, eevL_rng1, eevL_rng2, eevL_zip, eex_set, eex_par, eex_setI, eex_app, eex_exp, eex_ifs, eex_fr, eex_ret, eex_retN, eex_never, eexs_nil, eexs_cons, vmk_var, vmk_cst, vmk_tupD, vmk_lstD, vmk_dic0, vmk_bin, vmk_neg, vmk_cmp, vmk_isN, vmk_chn, vmk_notE, vmk_andE, vmk_orE, vmk_ite, vmk_sub, vmk_slc, vmk_rev, vmk_call, vmk_bi, vmk_isi, vmk_lc, vmk_dc, vmk_sortK, vbd_ok, vbd_st, vts_ok, vsq_nx, vsq_rt, vnx_ok, voO_some, vb1_bl, vgt_val, vgt_slot, vgs_nil, vgs_cons, vrv_, vso_nil, vso_val, vso_slot, vo1_, vo2_, voN_, voL_, vsu_, vag_nm, vag_tp, vsa_nil, vsa_cons, vwp_nil, vwp_cons, vbk_nil, vbk_cons, var_nil, var_val, var_slot, var_mut, vbo_nil, vbo_false, vbo_true, vpm_nil, vpm_cons, vco_, vevTo_no, vevTo_so, vsp_, vil_, vap_, vou_nil, vou_false, vou_true, vsh_tup, vsh_int, vsh_bl, vsh_non, vsh_str, vsh_frl, vsh_lst, vsh_dic, vsr_tup, vsr_int, vsr_bl, vsr_non, vsr_str, vsr_frl, vsr_lstF, vsr_lstT, vsr_dicF, vsr_dicT, vss_int, vss_nil, vss_cons, vbn_add, vbn_sub, vbn_mul, vbn_pow, vbn_mod, vbn_div, vbn_tup, vbn_lst, vcm_lt, vcm_le, vcm_gt, vcm_ge, vcm_eq, vcm_ne, vcm_eqB, vcm_neB, vcm_in, vcm_notin, vcm_eqT, vcm_neT, vcm_eqL, vcm_neL, vtr_bl, vtr_int, vtr_tup, vtr_lst, vtr_non, vno_, vng_, viN_non, viN_tup, viN_int, viN_bl, viN_str, viN_lst, viN_dic, vii_int, vii_bool, vii_str, vii_tuple, vii_list, vii_dict, vty_non, vty_bl, vty_int, vty_str, vty_tup, vty_lst, vty_frl, vty_dic, vbi_lenT, vbi_lenL, vbi_lenF, vbi_lenD, vbi_abs, vbi_intI, vbi_intB, vbi_max2, vbi_min2, vbi_maxL, vbi_minL, vbi_sum, vbi_all, vbi_any, vbi_listT, vbi_listL, vbi_tupT, vbi_tupL, vbi_sortL, vbi_sortD, vwk_tup, vwk_lst, vr1_, vr2_, vzp_tt, vzp_ll, vsb_tup, vsb_lst, vsb_frl, vsb_dic, vsl_tup, vsl_lst, vrv_lst, vsk_abs, vjn_s, vsg_, vcx_cl, vfi_rt, vfi_nx, List.getElem?_cons_zero, List.getElem?_cons_succ, List.set_cons_zero, List.set_cons_succ, Option.map_some, Option.map_none, Option.bind_some, List.length_cons, List.length_nil, Nat.reduceAdd, Nat.reduceLT, Nat.reduceSub, reduceIte, Bool.not_true, Bool.not_false, Bool.and_true, Bool.true_and, Bool.and_false, Bool.false_and, Bool.or_true, Bool.true_or, Bool.or_false, Bool.false_or, vcx_sg, Bool.false_eq_true, if_false, if_true, List.nil_append, String.reduceBEq, String.reduceEq, beq_self_eq_true]⟩
theorem Sm_int (k : Nat) (i : Int) : Sm (k + 1) (.int i) := ⟨rfl, vsr_int i, by simp -implicitDefEqProofs only [c__law_same, b__law_same, eev_cst, eev_var, eev_tupD, eev_lstD, eev_dic0, eev_bin, eev_neg, eev_cmp, eev_isN, eev_chn, eev_notE, eev_andE, eev_orE, eev_ite, eev_sub, eev_slc, eev_rev, eev_call, eev_bi, eev_isi, eev_lc, eev_dc, eev_sortK, eevs_nil, eevs_cons, eevO_no, eevO_so, eevT_tru, eevT_nt, eevT_an, eevT_or, eevL_ex, eevL_rng1, eevL_rng2, eevL_zip, eex_set, eex_par, eex_setI, eex_app, eex_exp, eex_ifs, eex_fr, eex_ret, eex_retN, eex_never, eexs_nil, eexs_cons, vmk_var, vmk_cst, vmk_tupD, vmk_lstD, vmk_dic0, vmk_bin, vmk_neg, vmk_cmp, vmk_isN, vmk_chn, vmk_notE, vmk_andE, vmk_orE, vmk_ite, vmk_sub, vmk_slc, vmk_rev, vmk_call, vmk_bi, vmk_isi, vmk_lc, vmk_dc, vmk_sortK, vbd_ok, vbd_st, vts_ok, vsq_nx, vsq_rt, vnx_ok, voO_some, vb1_bl, vgt_val, vgt_slot, vgs_nil, vgs_cons, vrv_, vso_nil, vso_val, vso_slot, vo1_, vo2_, voN_, voL_, vsu_, vag_nm, vag_tp, vsa_nil, vsa_cons, vwp_nil, vwp_cons, vbk_nil, vbk_cons, var_nil, var_val, var_slot, var_mut, vbo_nil, vbo_false, vbo_true, vpm_nil, vpm_cons, vco_, vevTo_no, vevTo_so, vsp_, vil_, vap_, vou_nil, vou_false, vou_true, vsh_tup, vsh_int, vsh_bl, vsh_non, vsh_str, vsh_frl, vsh_lst, vsh_dic, vsr_tup, vsr_int, vsr_bl, vsr_non, vsr_str, vsr_frl, vsr_lstF, vsr_lstT, vsr_dicF, vsr_dicT, vss_int, vss_nil, vss_cons, vbn_add, vbn_sub, vbn_mul, vbn_pow, vbn_mod, vbn_div, vbn_tup, vbn_lst, vcm_lt, vcm_le, vcm_gt, vcm_ge, vcm_eq, vcm_ne, vcm_eqB, vcm_neB, vcm_in, vcm_notin, vcm_eqT, vcm_neT, vcm_eqL, vcm_neL, vtr_bl, vtr_int, vtr_tup, vtr_lst, vtr_non, vno_, vng_, viN_non, viN_tup, viN_int, viN_bl, viN_str, viN_lst, viN_dic, vii_int, vii_bool, vii_str, vii_tuple, vii_list, vii_dict, vty_non, vty_bl, vty_int, vty_str, vty_tup, vty_lst, vty_frl, vty_dic, vbi_lenT, vbi_lenL, vbi_lenF, vbi_lenD, vbi_abs, vbi_intI, vbi_intB, vbi_max2, vbi_min2, vbi_maxL, vbi_minL, vbi_sum, vbi_all, vbi_any, vbi_listT, vbi_listL, vbi_tupT, vbi_tupL, vbi_sortL, vbi_sortD, vwk_tup, vwk_lst, vr1_, vr2_, vzp_tt, vzp_ll, vsb_tup, vsb_lst, vsb_frl, vsb_dic, vsl_tup, vsl_lst, vrv_lst, vsk_abs, vjn_s, vsg_, vcx_cl, vfi_rt, vfi_nx, List.getElem?_cons_zero, List.getElem?_cons_succ, List.set_cons_zero, List.set_cons_succ, Option.map_some, Option.map_none, Option.bind_some, List.length_cons, List.length_nil, Nat.reduceAdd, Nat.reduceLT, Nat.reduceSub, reduceIte, Bool.not_true, Bool.not_false, Bool.and_true, Bool.true_and, Bool.and_false, Bool.false_and, Bool.or_true, Bool.true_or, Bool.or_false, Bool.false_or, vcx_sg, Bool.false_eq_true, if_false, if_true, List.nil_append, String.reduceBEq, String.reduceEq, decide_true]⟩
theorem same_lc {k : Nat} {ds : List D} (h : ∀ d ∈ ds, Sm k d) (d : D) (hd : ∀ i : Int, subD d (.int i) = (DE.ixD ds.length i).bind fun j => ds[j]?) : lcL [2] (.nm 2) none (ev (cxT tab k) (.call "_law_same" (.cons (.sub (.var 0) (.var 2)) (.cons (.sub (.var 1) (.var 2)) .nil)) [0, 1])) ((List.range ds.length).map fun i : Nat => .int (i : Int)) [] [some d, some d, none] = .ok ((List.range ds.length).map fun _ => .bl true) [some d, some d, none] := by
  have e := lcL_map (own := [2]) (tg := .nm 2) (el := ev (cxT tab k) (.call "_law_same" (.cons (.sub (.var 0) (.var 2)) (.cons (.sub (.var 1) (.var 2)) .nil)) [0, 1])) (fun i : Nat => .int (i : Int)) (fun _ => .bl true) (ρ := [some d, some d, none]) (List.range ds.length) [] (fun i hi => by
    have hi : i < ds.length := List.mem_range.mp hi
    have S := h ds[i] (List.getElem_mem hi)
    refine ⟨_, [some d, some d, some (.int i)], rfl, ?_, rfl⟩
    simp -implicitDefEqProofs only [eev_cst, eev_var, eev_tupD, eev_lstD, eev_dic0, eev_bin, eev_neg, eev_cmp, eev_isN, eev_chn, eev_notE, eev_andE, eev_orE, eev_ite, eev_sub, eev_slc, eev_rev, eev_call, eev_bi, eev_isi, eev_lc, eev_dc, eev_sortK, eevs_nil, eevs_cons, eevO_no, eevO_so, eevT_tru, eevT_nt, eevT_an, eevT_or, eevL_ex, eevL_rng1, eevL_rng2, eevL_zip, eex_set, eex_par, eex_setI, eex_app, eex_exp, eex_ifs, eex_fr, eex_ret, eex_retN, eex_never, eexs_nil, eexs_cons, vmk_var, vmk_cst, vmk_tupD, vmk_lstD, vmk_dic0, vmk_bin, vmk_neg, vmk_cmp, vmk_isN, vmk_chn, vmk_notE, vmk_andE, vmk_orE, vmk_ite, vmk_sub, vmk_slc, vmk_rev, vmk_call, vmk_bi, vmk_isi, vmk_lc, vmk_dc, vmk_sortK, vbd_ok, vbd_st, vts_ok, vsq_nx, vsq_rt, vnx_ok, voO_some, vb1_bl, vgt_val, vgt_slot, vgs_nil, vgs_cons, vrv_, vso_nil, vso_val, vso_slot, vo1_, vo2_, voN_, voL_, vsu_, vag_nm, vag_tp, vsa_nil, vsa_cons, vwp_nil, vwp_cons, vbk_nil, vbk_cons, var_nil, var_val, var_slot, var_mut, vbo_nil, vbo_false, vbo_true, vpm_nil, vpm_cons, vco_, vevTo_no, vevTo_so, vsp_, vil_, vap_, vou_nil, vou_false, vou_true, vsh_tup, vsh_int, vsh_bl, vsh_non, vsh_str, vsh_frl, vsh_lst, vsh_dic, vsr_tup, vsr_int, vsr_bl, vsr_non, vsr_str, vsr_frl, vsr_lstF, vsr_lstT, vsr_dicF, vsr_dicT, vss_int, vss_nil, vss_cons, vbn_add, vbn_sub, vbn_mul, vbn_pow, vbn_mod, vbn_div, vbn_tup, vbn_lst, vcm_lt, vcm_le, vcm_gt, vcm_ge, vcm_eq, vcm_ne, vcm_eqB, vcm_neB, vcm_in, vcm_notin, vcm_eqT, vcm_neT, vcm_eqL, vcm_neL, vtr_bl, vtr_int, vtr_tup, vtr_lst, vtr_non, vno_, vng_, viN_non, viN_tup, viN_int, viN_bl, viN_str, viN_lst, viN_dic, vii_int, vii_bool, vii_str, vii_tuple, vii_list, vii_dict, vty_non, vty_bl, vty_int, vty_str, vty_tup, vty_lst, vty_frl, vty_dic, vbi_lenT, vbi_lenL, vbi_lenF, vbi_lenD, vbi_abs, vbi_intI, vbi_intB, vbi_max2, vbi_min2, vbi_maxL, vbi_minL, vbi_sum, vbi_all, vbi_any, vbi_listT, vbi_listL, vbi_tupT, vbi_tupL, vbi_sortL, vbi_sortD, vwk_tup, vwk_lst, vr1_, vr2_, vzp_tt, vzp_ll, vsb_tup, vsb_lst, vsb_frl, vsb_dic, vsl_tup, vsl_lst, vrv_lst, vsk_abs, vjn_s, vsg_, vcx_cl, vfi_rt, vfi_nx, List.getElem?_cons_zero, List.getElem?_cons_succ, List.set_cons_zero, List.set_cons_succ, Option.map_some, Option.map_none, Option.bind_some, List.length_cons, List.length_nil, Nat.reduceAdd, Nat.reduceLT, Nat.reduceSub, reduceIte, Bool.not_true, Bool.not_false, Bool.and_true, Bool.true_and, Bool.and_false, Bool.false_and, Bool.or_true, Bool.true_or, Bool.or_false, Bool.false_or, vcx_sg, Bool.false_eq_true, if_false, if_true, List.nil_append, String.reduceBEq, String.reduceEq, hd, ixD_nat hi, List.getElem?_eq_getElem hi, S.s1, S.s2, t__law_same, g__law_same, S.ok])
  rwa [List.nil_append] at e
theorem Sm_tup {k : Nat} {ds : List D} (hl : ds.length ≤ 16777216) (h : ∀ d ∈ ds, Sm k d) : Sm (k + 1) (.tup ds) := by
  have e := same_lc h (.tup ds) (fun i => rfl)
  refine ⟨rfl, vsr_tup _, ?_⟩
  simp -implicitDefEqProofs only [c__law_same, b__law_same, eev_cst, eev_var, eev_tupD, eev_lstD, eev_dic0, eev_bin, eev_neg, eev_cmp, eev_isN, eev_chn, eev_notE, eev_andE, eev_orE, eev_ite, eev_sub, eev_slc, eev_rev, eev_call, eev_bi, eev_isi, eev_lc, eev_dc, eev_sortK, eevs_nil, eevs_cons, eevO_no, eevO_so, eevT_tru, eevT_nt, eevT_an, eevT_or, eevL_ex, eevL_rng1, eevL_rng2, eevL_zip, eex_set, eex_par, eex_setI, eex_app, eex_exp, eex_ifs, eex_fr, eex_ret, eex_retN, eex_never, eexs_nil, eexs_cons, vmk_var, vmk_cst, vmk_tupD, vmk_lstD, vmk_dic0, vmk_bin, vmk_neg, vmk_cmp, vmk_isN, vmk_chn, vmk_notE, vmk_andE, vmk_orE, vmk_ite, vmk_sub, vmk_slc, vmk_rev, vmk_call, vmk_bi, vmk_isi, vmk_lc, vmk_dc, vmk_sortK, vbd_ok, vbd_st, vts_ok, vsq_nx, vsq_rt, vnx_ok, voO_some, vb1_bl, vgt_val, vgt_slot, vgs_nil, vgs_cons, vrv_, vso_nil, vso_val, vso_slot, vo1_, vo2_, voN_, voL_, vsu_, vag_nm, vag_tp, vsa_nil, vsa_cons, vwp_nil, vwp_cons, vbk_nil, vbk_cons, var_nil, var_val, var_slot, var_mut, vbo_nil, vbo_false, vbo_true, vpm_nil, vpm_cons, vco_, vevTo_no, vevTo_so, vsp_, vil_, vap_, vou_nil, vou_false, vou_true, vsh_tup, vsh_int, vsh_bl, vsh_non, vsh_str, vsh_frl, vsh_lst, vsh_dic, vsr_tup, vsr_int, vsr_bl, vsr_non, vsr_str, vsr_frl, vsr_lstF, vsr_lstT, vsr_dicF, vsr_dicT, vss_int, vss_nil, vss_cons, vbn_add, vbn_sub, vbn_mul, vbn_pow, vbn_mod, vbn_div, vbn_tup, vbn_lst, vcm_lt, vcm_le, vcm_gt, vcm_ge, vcm_eq, vcm_ne, vcm_eqB, vcm_neB, vcm_in, vcm_notin, vcm_eqT, vcm_neT, vcm_eqL, vcm_neL, vtr_bl, vtr_int, vtr_tup, vtr_lst, vtr_non, vno_, vng_, viN_non, viN_tup, viN_int, viN_bl, viN_str, viN_lst, viN_dic, vii_int, vii_bool, vii_str, vii_tuple, vii_list, vii_dict, vty_non, vty_bl, vty_int, vty_str, vty_tup, vty_lst, vty_frl, vty_dic, vbi_lenT, vbi_lenL, vbi_lenF, vbi_lenD, vbi_abs, vbi_intI, vbi_intB, vbi_max2, vbi_min2, vbi_maxL, vbi_minL, vbi_sum, vbi_all, vbi_any, vbi_listT, vbi_listL, vbi_tupT, vbi_tupL, vbi_sortL, vbi_sortD, vwk_tup, vwk_lst, vr1_, vr2_, vzp_tt, vzp_ll, vsb_tup, vsb_lst, vsb_frl, vsb_dic, vsl_tup, vsl_lst, vrv_lst, vsk_abs, vjn_s, vsg_, vcx_cl, vfi_rt, vfi_nx, List.getElem?_cons_zero, List.getElem?_cons_succ, List.set_cons_zero, List.set_cons_succ, Option.map_some, Option.map_none, Option.bind_some, List.length_cons, List.length_nil, Nat.reduceAdd, Nat.reduceLT, Nat.reduceSub, reduceIte, Bool.not_true, Bool.not_false, Bool.and_true, Bool.true_and, Bool.and_false, Bool.false_and, Bool.or_true, Bool.true_or, Bool.or_false, Bool.false_or, vcx_sg, Bool.false_eq_true, if_false, if_true, List.nil_append, String.reduceBEq, String.reduceEq, bne_self_eq_false, beq_self_eq_true, decide_true, rngD_len hl, e, bls_map, all_id, all_true]
theorem Sm_lst {k : Nat} {ds : List D} (hl : ds.length ≤ 16777216) (h : ∀ d ∈ ds, Sm k d) : Sm (k + 1) (.lst false ds) := by
  have e := same_lc h (.lst false ds) (fun i => rfl)
  refine ⟨rfl, vsr_lstF _, ?_⟩
  simp -implicitDefEqProofs only [c__law_same, b__law_same, eev_cst, eev_var, eev_tupD, eev_lstD, eev_dic0, eev_bin, eev_neg, eev_cmp, eev_isN, eev_chn, eev_notE, eev_andE, eev_orE, eev_ite, eev_sub, eev_slc, eev_rev, eev_call, eev_bi, eev_isi, eev_lc, eev_dc, eev_sortK, eevs_nil, eevs_cons, eevO_no, eevO_so, eevT_tru, eevT_nt, eevT_an, eevT_or, eevL_ex, eevL_rng1, eevL_rng2, eevL_zip, eex_set, eex_par, eex_setI, eex_app, eex_exp, eex_ifs, eex_fr, eex_ret, eex_retN, eex_never, eexs_nil, eexs_cons, vmk_var, vmk_cst, vmk_tupD, vmk_lstD, vmk_dic0, vmk_bin, vmk_neg, vmk_cmp, vmk_isN, vmk_chn, vmk_notE, vmk_andE, vmk_orE, vmk_ite, vmk_sub, vmk_slc, vmk_rev, vmk_call, vmk_bi, vmk_isi, vmk_lc, vmk_dc, vmk_sortK, vbd_ok, vbd_st, vts_ok, vsq_nx, vsq_rt, vnx_ok, voO_some, vb1_bl, vgt_val, vgt_slot, vgs_nil, vgs_cons, vrv_, vso_nil, vso_val, vso_slot, vo1_, vo2_, voN_, voL_, vsu_, vag_nm, vag_tp, vsa_nil, vsa_cons, vwp_nil, vwp_cons, vbk_nil, vbk_cons, var_nil, var_val, var_slot, var_mut, vbo_nil, vbo_false, vbo_true, vpm_nil, vpm_cons, vco_, vevTo_no, vevTo_so, vsp_, vil_, vap_, vou_nil, vou_false, vou_true, vsh_tup, vsh_int, vsh_bl, vsh_non, vsh_str, vsh_frl, vsh_lst, vsh_dic, vsr_tup, vsr_int, vsr_bl, vsr_non, vsr_str, vsr_frl, vsr_lstF, vsr_lstT, vsr_dicF, vsr_dicT, vss_int, vss_nil, vss_cons, vbn_add, vbn_sub, vbn_mul, vbn_pow, vbn_mod, vbn_div, vbn_tup, vbn_lst, vcm_lt, vcm_le, vcm_gt, vcm_ge, vcm_eq, vcm_ne, vcm_eqB, vcm_neB, vcm_in, vcm_notin, vcm_eqT, vcm_neT, vcm_eqL, vcm_neL, vtr_bl, vtr_int, vtr_tup, vtr_lst, vtr_non, vno_, vng_, viN_non, viN_tup, viN_int, viN_bl, viN_str, viN_lst, viN_dic, vii_int, vii_bool, vii_str, vii_tuple, vii_list, vii_dict, vty_non, vty_bl, vty_int, vty_str, vty_tup, vty_lst, vty_frl, vty_dic, vbi_lenT, vbi_lenL, vbi_lenF, vbi_lenD, vbi_abs, vbi_intI, vbi_intB, vbi_max2, vbi_min2, vbi_maxL, vbi_minL, vbi_sum, vbi_all, vbi_any, vbi_listT, vbi_listL, vbi_tupT, vbi_tupL, vbi_sortL, vbi_sortD, vwk_tup, vwk_lst, vr1_, vr2_, vzp_tt, vzp_ll, vsb_tup, vsb_lst, vsb_frl, vsb_dic, vsl_tup, vsl_lst, vrv_lst, vsk_abs, vjn_s, vsg_, vcx_cl, vfi_rt, vfi_nx, List.getElem?_cons_zero, List.getElem?_cons_succ, List.set_cons_zero, List.set_cons_succ, Option.map_some, Option.map_none, Option.bind_some, List.length_cons, List.length_nil, Nat.reduceAdd, Nat.reduceLT, Nat.reduceSub, reduceIte, Bool.not_true, Bool.not_false, Bool.and_true, Bool.true_and, Bool.and_false, Bool.false_and, Bool.or_true, Bool.true_or, Bool.or_false, Bool.false_or, vcx_sg, Bool.false_eq_true, if_false, if_true, List.nil_append, String.reduceBEq, String.reduceEq, bne_self_eq_false, beq_self_eq_true, decide_true, rngD_len hl, e, bls_map, all_id, all_true]
theorem Sm_T (k : Nat) (l : List Int) (h : l.length ≤ 16777216) : Sm (k + 2) (T l) := Sm_tup (by simpa using h) fun d hd => by
  obtain ⟨i, _, rfl⟩ := List.mem_map.mp hd
  exact Sm_int k i
theorem Sm_RD (k : Nat) (a b : List Int) (h : ∀ c, made a b = some c → c.length ≤ 16777216) : Sm (k + 2) (RD a b) := by
  unfold RD
  cases e : made a b with
  | none => exact Sm_non (k + 1)
  | some c => exact Sm_T k c (h c e)
theorem Sm_pair {k : Nat} {d e : D} (h1 : Sm k d) (h2 : Sm k e) : Sm (k + 1) (.lst false [d, e]) := Sm_lst (by simp) fun x hx => by
  rcases List.mem_cons.mp hx with q | hx
  · rw [q]; exact h1
  · rcases List.mem_cons.mp hx with q | hx
    · rw [q]; exact h2
    · cases hx
/-! ### rows -/
def rowsN : Nat → List (List Int)
  | 0 => [[]]
  | n + 1 => (rowsN n).flatMap fun r => [r ++ [0], r ++ [1]]
theorem rows_ok (k : Nat) : callK tab (k + 1) "_law_rows" [.int 5] = .ok (.lst false ((rowsN 5).map T)) [] := by kernel_rfl
theorem rows_len : ∀ r ∈ rowsN 5, r.length = 5 := by decide
/-- a literal is true at a row -/
def rv (r : List Int) (x : Int) : Int := (r[(ab x - 1).toNat]?).getD 0
def litT (r : List Int) (x : Int) : Bool := decide (rv r x = b2I (decide (0 < x)))
def hB (r a : List Int) : Bool := a.any (litT r)
theorem eqD_nil (o p : Bool) (l : List Int) : eqD (.lst o (l.map .int)) (.lst p []) = l.isEmpty := by cases l <;> rfl
theorem okEq_lst (o : Bool) (l : List Int) : okEq 60 (.lst o (l.map .int)) = true := by
  rw [okEq, List.all_map]; simp [okEq]
theorem okEq_nil (o : Bool) : okEq 60 (.lst o []) = true := rfl
theorem sub_row {r : List Int} (hr : r.length = 5) {x : Int} (hx : 0 < ab x ∧ ab x ≤ 5) : subD (T r) (.int ((if x < 0 then -x else x) - 1)) = some (.int (rv r x)) := by
  show (DE.ixD (r.map D.int).length (ab x - 1)).bind (fun j => (r.map D.int)[j]?) = _
  rw [List.length_map, hr]
  unfold rv DE.ixD
  rw [if_pos (by omega), if_pos (by omega)]
  have h : (ab x - 1).toNat < r.length := by omega
  show (r.map D.int)[(ab x - 1).toNat]? = _
  rw [List.getElem?_map, List.getElem?_eq_getElem h]
  rfl
theorem holds_lc (c : DE.Ctx) {r a : List Int} (hr : r.length = 5) (ha : Cl 5 a) (o : Option D) : lcL [3] (.nm 3) (some (evT c (.tru (.cmp .Eq (.sub (.var 1) (.bin .Sub (.bi "abs" (.cons (.var 3) .nil)) (.cst (.int 1)))) (.bi "int" (.cons (.cmp .Gt (.var 3) (.cst (.int 0))) .nil)))))) (ev c (.var 3)) (a.map .int) [] [o, some (T r), some (T a), none] = .ok ((a.filter (litT r)).map .int) [o, some (T r), some (T a), none] :=
  lcL_fil D.int D.int (litT r) a [] fun x hx => by
    refine ⟨_, [o, some (T r), some (T a), some (.int x)], rfl, ?_, fun _ => ⟨[o, some (T r), some (T a), some (.int x)], ?_, rfl⟩, fun _ => rfl⟩
    · simp -implicitDefEqProofs only [eev_cst, eev_var, eev_tupD, eev_lstD, eev_dic0, eev_bin, eev_neg, eev_cmp, eev_isN, eev_chn, eev_notE, eev_andE, eev_orE, eev_ite, eev_sub, eev_slc, eev_rev, eev_call, eev_bi, eev_isi, eev_lc, eev_dc, eev_sortK, eevs_nil, eevs_cons, eevO_no, eevO_so, eevT_tru, eevT_nt, eevT_an, eevT_or, eevL_ex, eevL_rng1, eevL_rng2, eevL_zip, eex_set, eex_par, eex_setI, eex_app, eex_exp, eex_ifs, eex_fr, eex_ret, eex_retN, eex_never, eexs_nil, eexs_cons, vmk_var, vmk_cst, vmk_tupD, vmk_lstD, vmk_dic0, vmk_bin, vmk_neg, vmk_cmp, vmk_isN, vmk_chn, vmk_notE, vmk_andE, vmk_orE, vmk_ite, vmk_sub, vmk_slc, vmk_rev, vmk_call, vmk_bi, vmk_isi, vmk_lc, vmk_dc, vmk_sortK, vbd_ok, vbd_st, vts_ok, vsq_nx, vsq_rt, vnx_ok, voO_some, vb1_bl, vgt_val, vgt_slot, vgs_nil, vgs_cons, vrv_, vso_nil, vso_val, vso_slot, vo1_, vo2_, voN_, voL_, vsu_, vag_nm, vag_tp, vsa_nil, vsa_cons, vwp_nil, vwp_cons, vbk_nil, vbk_cons, var_nil, var_val, var_slot, var_mut, vbo_nil, vbo_false, vbo_true, vpm_nil, vpm_cons, vco_, vevTo_no, vevTo_so, vsp_, vil_, vap_, vou_nil, vou_false, vou_true, vsh_tup, vsh_int, vsh_bl, vsh_non, vsh_str, vsh_frl, vsh_lst, vsh_dic, vsr_tup, vsr_int, vsr_bl, vsr_non, vsr_str, vsr_frl, vsr_lstF, vsr_lstT, vsr_dicF, vsr_dicT, vss_int, vss_nil, vss_cons, vbn_add, vbn_sub, vbn_mul, vbn_pow, vbn_mod, vbn_div, vbn_tup, vbn_lst, vcm_lt, vcm_le, vcm_gt, vcm_ge, vcm_eq, vcm_ne, vcm_eqB, vcm_neB, vcm_in, vcm_notin, vcm_eqT, vcm_neT, vcm_eqL, vcm_neL, vtr_bl, vtr_int, vtr_tup, vtr_lst, vtr_non, vno_, vng_, viN_non, viN_tup, viN_int, viN_bl, viN_str, viN_lst, viN_dic, vii_int, vii_bool, vii_str, vii_tuple, vii_list, vii_dict, vty_non, vty_bl, vty_int, vty_str, vty_tup, vty_lst, vty_frl, vty_dic, vbi_lenT, vbi_lenL, vbi_lenF, vbi_lenD, vbi_abs, vbi_intI, vbi_intB, vbi_max2, vbi_min2, vbi_maxL, vbi_minL, vbi_sum, vbi_all, vbi_any, vbi_listT, vbi_listL, vbi_tupT, vbi_tupL, vbi_sortL, vbi_sortD, vwk_tup, vwk_lst, vr1_, vr2_, vzp_tt, vzp_ll, vsb_tup, vsb_lst, vsb_frl, vsb_dic, vsl_tup, vsl_lst, vrv_lst, vsk_abs, vjn_s, vsg_, vcx_cl, vfi_rt, vfi_nx, List.getElem?_cons_zero, List.getElem?_cons_succ, List.set_cons_zero, List.set_cons_succ, Option.map_some, Option.map_none, Option.bind_some, List.length_cons, List.length_nil, Nat.reduceAdd, Nat.reduceLT, Nat.reduceSub, reduceIte, Bool.not_true, Bool.not_false, Bool.and_true, Bool.true_and, Bool.and_false, Bool.false_and, Bool.or_true, Bool.true_or, Bool.or_false, Bool.false_or, vcx_sg, Bool.false_eq_true, if_false, if_true, List.nil_append, String.reduceBEq, String.reduceEq, sub_row hr (ha.lit x hx)]; rfl
    · simp -implicitDefEqProofs only [eev_cst, eev_var, eev_tupD, eev_lstD, eev_dic0, eev_bin, eev_neg, eev_cmp, eev_isN, eev_chn, eev_notE, eev_andE, eev_orE, eev_ite, eev_sub, eev_slc, eev_rev, eev_call, eev_bi, eev_isi, eev_lc, eev_dc, eev_sortK, eevs_nil, eevs_cons, eevO_no, eevO_so, eevT_tru, eevT_nt, eevT_an, eevT_or, eevL_ex, eevL_rng1, eevL_rng2, eevL_zip, eex_set, eex_par, eex_setI, eex_app, eex_exp, eex_ifs, eex_fr, eex_ret, eex_retN, eex_never, eexs_nil, eexs_cons, vmk_var, vmk_cst, vmk_tupD, vmk_lstD, vmk_dic0, vmk_bin, vmk_neg, vmk_cmp, vmk_isN, vmk_chn, vmk_notE, vmk_andE, vmk_orE, vmk_ite, vmk_sub, vmk_slc, vmk_rev, vmk_call, vmk_bi, vmk_isi, vmk_lc, vmk_dc, vmk_sortK, vbd_ok, vbd_st, vts_ok, vsq_nx, vsq_rt, vnx_ok, voO_some, vb1_bl, vgt_val, vgt_slot, vgs_nil, vgs_cons, vrv_, vso_nil, vso_val, vso_slot, vo1_, vo2_, voN_, voL_, vsu_, vag_nm, vag_tp, vsa_nil, vsa_cons, vwp_nil, vwp_cons, vbk_nil, vbk_cons, var_nil, var_val, var_slot, var_mut, vbo_nil, vbo_false, vbo_true, vpm_nil, vpm_cons, vco_, vevTo_no, vevTo_so, vsp_, vil_, vap_, vou_nil, vou_false, vou_true, vsh_tup, vsh_int, vsh_bl, vsh_non, vsh_str, vsh_frl, vsh_lst, vsh_dic, vsr_tup, vsr_int, vsr_bl, vsr_non, vsr_str, vsr_frl, vsr_lstF, vsr_lstT, vsr_dicF, vsr_dicT, vss_int, vss_nil, vss_cons, vbn_add, vbn_sub, vbn_mul, vbn_pow, vbn_mod, vbn_div, vbn_tup, vbn_lst, vcm_lt, vcm_le, vcm_gt, vcm_ge, vcm_eq, vcm_ne, vcm_eqB, vcm_neB, vcm_in, vcm_notin, vcm_eqT, vcm_neT, vcm_eqL, vcm_neL, vtr_bl, vtr_int, vtr_tup, vtr_lst, vtr_non, vno_, vng_, viN_non, viN_tup, viN_int, viN_bl, viN_str, viN_lst, viN_dic, vii_int, vii_bool, vii_str, vii_tuple, vii_list, vii_dict, vty_non, vty_bl, vty_int, vty_str, vty_tup, vty_lst, vty_frl, vty_dic, vbi_lenT, vbi_lenL, vbi_lenF, vbi_lenD, vbi_abs, vbi_intI, vbi_intB, vbi_max2, vbi_min2, vbi_maxL, vbi_minL, vbi_sum, vbi_all, vbi_any, vbi_listT, vbi_listL, vbi_tupT, vbi_tupL, vbi_sortL, vbi_sortD, vwk_tup, vwk_lst, vr1_, vr2_, vzp_tt, vzp_ll, vsb_tup, vsb_lst, vsb_frl, vsb_dic, vsl_tup, vsl_lst, vrv_lst, vsk_abs, vjn_s, vsg_, vcx_cl, vfi_rt, vfi_nx, List.getElem?_cons_zero, List.getElem?_cons_succ, List.set_cons_zero, List.set_cons_succ, Option.map_some, Option.map_none, Option.bind_some, List.length_cons, List.length_nil, Nat.reduceAdd, Nat.reduceLT, Nat.reduceSub, reduceIte, Bool.not_true, Bool.not_false, Bool.and_true, Bool.true_and, Bool.and_false, Bool.false_and, Bool.or_true, Bool.true_or, Bool.or_false, Bool.false_or, vcx_sg, Bool.false_eq_true, if_false, if_true, List.nil_append, String.reduceBEq, String.reduceEq]
theorem filter_any {α : Type} (p : α → Bool) : ∀ l : List α, (l.filter p).isEmpty = !l.any p
  | [] => rfl
  | x :: r => by
    have ih := filter_any p r
    cases h : p x <;> simp [h, ih]
theorem holds_ok (k : Nat) {r : List Int} (hr : r.length = 5) (cs : List (List Int)) (hc : ∀ a ∈ cs, Cl 5 a) : callK tab (k + 1) "_law_holds" [.tup (cs.map T), T r] = .ok (.bl (cs.all (hB r))) [] := by
  have L := forL_ret (tg := .nm 2) (body := exs (cxT tab k) (.cons (.ifs (.tru (.cmp .Eq (.lc [3] (.nm 3) (.ex (.var 2)) (some (.tru (.cmp .Eq (.sub (.var 1) (.bin .Sub (.bi "abs" (.cons (.var 3) .nil)) (.cst (.int 1)))) (.bi "int" (.cons (.cmp .Gt (.var 3) (.cst (.int 0))) .nil))))) (.var 3)) (.lstD .nil))) (.cons (.ret (.cst (.bl false))) .nil) .nil) .nil)) T (hB r) (.bl false) (fun ρ => ∃ o, ρ = [some (.tup (cs.map T)), some (T r), o, none]) (fun ρ => ∃ o, ρ = [some (.tup (cs.map T)), some (T r), o, none]) cs [some (.tup (cs.map T)), some (T r), none, none] ⟨_, rfl⟩ (by
    rintro a ha ρ ⟨o, rfl⟩
    have e := holds_lc (cxT tab k) hr (hc a ha) (some (.tup (cs.map T)))
    refine ⟨[some (.tup (cs.map T)), some (T r), some (T a), none], rfl, fun h => ⟨[some (.tup (cs.map T)), some (T r), some (T a), none], ?_, _, rfl⟩, fun h => ⟨[some (.tup (cs.map T)), some (T r), some (T a), none], ?_, _, rfl⟩⟩
    · simp -implicitDefEqProofs only [eev_cst, eev_var, eev_tupD, eev_lstD, eev_dic0, eev_bin, eev_neg, eev_cmp, eev_isN, eev_chn, eev_notE, eev_andE, eev_orE, eev_ite, eev_sub, eev_slc, eev_rev, eev_call, eev_bi, eev_isi, eev_lc, eev_dc, eev_sortK, eevs_nil, eevs_cons, eevO_no, eevO_so, eevT_tru, eevT_nt, eevT_an, eevT_or, eevL_ex, eevL_rng1, eevL_rng2, eevL_zip, eex_set, eex_par, eex_setI, eex_app, eex_exp, eex_ifs, eex_fr, eex_ret, eex_retN, eex_never, eexs_nil, eexs_cons, vmk_var, vmk_cst, vmk_tupD, vmk_lstD, vmk_dic0, vmk_bin, vmk_neg, vmk_cmp, vmk_isN, vmk_chn, vmk_notE, vmk_andE, vmk_orE, vmk_ite, vmk_sub, vmk_slc, vmk_rev, vmk_call, vmk_bi, vmk_isi, vmk_lc, vmk_dc, vmk_sortK, vbd_ok, vbd_st, vts_ok, vsq_nx, vsq_rt, vnx_ok, voO_some, vb1_bl, vgt_val, vgt_slot, vgs_nil, vgs_cons, vrv_, vso_nil, vso_val, vso_slot, vo1_, vo2_, voN_, voL_, vsu_, vag_nm, vag_tp, vsa_nil, vsa_cons, vwp_nil, vwp_cons, vbk_nil, vbk_cons, var_nil, var_val, var_slot, var_mut, vbo_nil, vbo_false, vbo_true, vpm_nil, vpm_cons, vco_, vevTo_no, vevTo_so, vsp_, vil_, vap_, vou_nil, vou_false, vou_true, vsh_tup, vsh_int, vsh_bl, vsh_non, vsh_str, vsh_frl, vsh_lst, vsh_dic, vsr_tup, vsr_int, vsr_bl, vsr_non, vsr_str, vsr_frl, vsr_lstF, vsr_lstT, vsr_dicF, vsr_dicT, vss_int, vss_nil, vss_cons, vbn_add, vbn_sub, vbn_mul, vbn_pow, vbn_mod, vbn_div, vbn_tup, vbn_lst, vcm_lt, vcm_le, vcm_gt, vcm_ge, vcm_eq, vcm_ne, vcm_eqB, vcm_neB, vcm_in, vcm_notin, vcm_eqT, vcm_neT, vcm_eqL, vcm_neL, vtr_bl, vtr_int, vtr_tup, vtr_lst, vtr_non, vno_, vng_, viN_non, viN_tup, viN_int, viN_bl, viN_str, viN_lst, viN_dic, vii_int, vii_bool, vii_str, vii_tuple, vii_list, vii_dict, vty_non, vty_bl, vty_int, vty_str, vty_tup, vty_lst, vty_frl, vty_dic, vbi_lenT, vbi_lenL, vbi_lenF, vbi_lenD, vbi_abs, vbi_intI, vbi_intB, vbi_max2, vbi_min2, vbi_maxL, vbi_minL, vbi_sum, vbi_all, vbi_any, vbi_listT, vbi_listL, vbi_tupT, vbi_tupL, vbi_sortL, vbi_sortD, vwk_tup, vwk_lst, vr1_, vr2_, vzp_tt, vzp_ll, vsb_tup, vsb_lst, vsb_frl, vsb_dic, vsl_tup, vsl_lst, vrv_lst, vsk_abs, vjn_s, vsg_, vcx_cl, vfi_rt, vfi_nx, List.getElem?_cons_zero, List.getElem?_cons_succ, List.set_cons_zero, List.set_cons_succ, Option.map_some, Option.map_none, Option.bind_some, List.length_cons, List.length_nil, Nat.reduceAdd, Nat.reduceLT, Nat.reduceSub, reduceIte, Bool.not_true, Bool.not_false, Bool.and_true, Bool.true_and, Bool.and_false, Bool.false_and, Bool.or_true, Bool.true_or, Bool.or_false, Bool.false_or, vcx_sg, Bool.false_eq_true, if_false, if_true, List.nil_append, String.reduceBEq, String.reduceEq, e, vsz_, Nat.zero_le, okEq_lst, okEq_nil, eqD_nil, filter_any]
      simp -implicitDefEqProofs only [show a.any (litT r) = true from h, eev_cst, eev_var, eev_tupD, eev_lstD, eev_dic0, eev_bin, eev_neg, eev_cmp, eev_isN, eev_chn, eev_notE, eev_andE, eev_orE, eev_ite, eev_sub, eev_slc, eev_rev, eev_call, eev_bi, eev_isi, eev_lc, eev_dc, eev_sortK, eevs_nil, eevs_cons, eevO_no, eevO_so, eevT_tru, eevT_nt, eevT_an, eevT_or, eevL_ex, eevL_rng1, eevL_rng2, eevL_zip, eex_set, eex_par, eex_setI, eex_app, eex_exp, eex_ifs, eex_fr, eex_ret, eex_retN, eex_never, eexs_nil, eexs_cons, vmk_var, vmk_cst, vmk_tupD, vmk_lstD, vmk_dic0, vmk_bin, vmk_neg, vmk_cmp, vmk_isN, vmk_chn, vmk_notE, vmk_andE, vmk_orE, vmk_ite, vmk_sub, vmk_slc, vmk_rev, vmk_call, vmk_bi, vmk_isi, vmk_lc, vmk_dc, vmk_sortK, vbd_ok, vbd_st, vts_ok, vsq_nx, vsq_rt, vnx_ok, voO_some, vb1_bl, vgt_val, vgt_slot, vgs_nil, vgs_cons, vrv_, vso_nil, vso_val, vso_slot, vo1_, vo2_, voN_, voL_, vsu_, vag_nm, vag_tp, vsa_nil, vsa_cons, vwp_nil, vwp_cons, vbk_nil, vbk_cons, var_nil, var_val, var_slot, var_mut, vbo_nil, vbo_false, vbo_true, vpm_nil, vpm_cons, vco_, vevTo_no, vevTo_so, vsp_, vil_, vap_, vou_nil, vou_false, vou_true, vsh_tup, vsh_int, vsh_bl, vsh_non, vsh_str, vsh_frl, vsh_lst, vsh_dic, vsr_tup, vsr_int, vsr_bl, vsr_non, vsr_str, vsr_frl, vsr_lstF, vsr_lstT, vsr_dicF, vsr_dicT, vss_int, vss_nil, vss_cons, vbn_add, vbn_sub, vbn_mul, vbn_pow, vbn_mod, vbn_div, vbn_tup, vbn_lst, vcm_lt, vcm_le, vcm_gt, vcm_ge, vcm_eq, vcm_ne, vcm_eqB, vcm_neB, vcm_in, vcm_notin, vcm_eqT, vcm_neT, vcm_eqL, vcm_neL, vtr_bl, vtr_int, vtr_tup, vtr_lst, vtr_non, vno_, vng_, viN_non, viN_tup, viN_int, viN_bl, viN_str, viN_lst, viN_dic, vii_int, vii_bool, vii_str, vii_tuple, vii_list, vii_dict, vty_non, vty_bl, vty_int, vty_str, vty_tup, vty_lst, vty_frl, vty_dic, vbi_lenT, vbi_lenL, vbi_lenF, vbi_lenD, vbi_abs, vbi_intI, vbi_intB, vbi_max2, vbi_min2, vbi_maxL, vbi_minL, vbi_sum, vbi_all, vbi_any, vbi_listT, vbi_listL, vbi_tupT, vbi_tupL, vbi_sortL, vbi_sortD, vwk_tup, vwk_lst, vr1_, vr2_, vzp_tt, vzp_ll, vsb_tup, vsb_lst, vsb_frl, vsb_dic, vsl_tup, vsl_lst, vrv_lst, vsk_abs, vjn_s, vsg_, vcx_cl, vfi_rt, vfi_nx, List.getElem?_cons_zero, List.getElem?_cons_succ, List.set_cons_zero, List.set_cons_succ, Option.map_some, Option.map_none, Option.bind_some, List.length_cons, List.length_nil, Nat.reduceAdd, Nat.reduceLT, Nat.reduceSub, reduceIte, Bool.not_true, Bool.not_false, Bool.and_true, Bool.true_and, Bool.and_false, Bool.false_and, Bool.or_true, Bool.true_or, Bool.or_false, Bool.false_or, vcx_sg, Bool.false_eq_true, if_false, if_true, List.nil_append, String.reduceBEq, String.reduceEq]
    · simp -implicitDefEqProofs only [eev_cst, eev_var, eev_tupD, eev_lstD, eev_dic0, eev_bin, eev_neg, eev_cmp, eev_isN, eev_chn, eev_notE, eev_andE, eev_orE, eev_ite, eev_sub, eev_slc, eev_rev, eev_call, eev_bi, eev_isi, eev_lc, eev_dc, eev_sortK, eevs_nil, eevs_cons, eevO_no, eevO_so, eevT_tru, eevT_nt, eevT_an, eevT_or, eevL_ex, eevL_rng1, eevL_rng2, eevL_zip, eex_set, eex_par, eex_setI, eex_app, eex_exp, eex_ifs, eex_fr, eex_ret, eex_retN, eex_never, eexs_nil, eexs_cons, vmk_var, vmk_cst, vmk_tupD, vmk_lstD, vmk_dic0, vmk_bin, vmk_neg, vmk_cmp, vmk_isN, vmk_chn, vmk_notE, vmk_andE, vmk_orE, vmk_ite, vmk_sub, vmk_slc, vmk_rev, vmk_call, vmk_bi, vmk_isi, vmk_lc, vmk_dc, vmk_sortK, vbd_ok, vbd_st, vts_ok, vsq_nx, vsq_rt, vnx_ok, voO_some, vb1_bl, vgt_val, vgt_slot, vgs_nil, vgs_cons, vrv_, vso_nil, vso_val, vso_slot, vo1_, vo2_, voN_, voL_, vsu_, vag_nm, vag_tp, vsa_nil, vsa_cons, vwp_nil, vwp_cons, vbk_nil, vbk_cons, var_nil, var_val, var_slot, var_mut, vbo_nil, vbo_false, vbo_true, vpm_nil, vpm_cons, vco_, vevTo_no, vevTo_so, vsp_, vil_, vap_, vou_nil, vou_false, vou_true, vsh_tup, vsh_int, vsh_bl, vsh_non, vsh_str, vsh_frl, vsh_lst, vsh_dic, vsr_tup, vsr_int, vsr_bl, vsr_non, vsr_str, vsr_frl, vsr_lstF, vsr_lstT, vsr_dicF, vsr_dicT, vss_int, vss_nil, vss_cons, vbn_add, vbn_sub, vbn_mul, vbn_pow, vbn_mod, vbn_div, vbn_tup, vbn_lst, vcm_lt, vcm_le, vcm_gt, vcm_ge, vcm_eq, vcm_ne, vcm_eqB, vcm_neB, vcm_in, vcm_notin, vcm_eqT, vcm_neT, vcm_eqL, vcm_neL, vtr_bl, vtr_int, vtr_tup, vtr_lst, vtr_non, vno_, vng_, viN_non, viN_tup, viN_int, viN_bl, viN_str, viN_lst, viN_dic, vii_int, vii_bool, vii_str, vii_tuple, vii_list, vii_dict, vty_non, vty_bl, vty_int, vty_str, vty_tup, vty_lst, vty_frl, vty_dic, vbi_lenT, vbi_lenL, vbi_lenF, vbi_lenD, vbi_abs, vbi_intI, vbi_intB, vbi_max2, vbi_min2, vbi_maxL, vbi_minL, vbi_sum, vbi_all, vbi_any, vbi_listT, vbi_listL, vbi_tupT, vbi_tupL, vbi_sortL, vbi_sortD, vwk_tup, vwk_lst, vr1_, vr2_, vzp_tt, vzp_ll, vsb_tup, vsb_lst, vsb_frl, vsb_dic, vsl_tup, vsl_lst, vrv_lst, vsk_abs, vjn_s, vsg_, vcx_cl, vfi_rt, vfi_nx, List.getElem?_cons_zero, List.getElem?_cons_succ, List.set_cons_zero, List.set_cons_succ, Option.map_some, Option.map_none, Option.bind_some, List.length_cons, List.length_nil, Nat.reduceAdd, Nat.reduceLT, Nat.reduceSub, reduceIte, Bool.not_true, Bool.not_false, Bool.and_true, Bool.true_and, Bool.and_false, Bool.false_and, Bool.or_true, Bool.true_or, Bool.or_false, Bool.false_or, vcx_sg, Bool.false_eq_true, if_false, if_true, List.nil_append, String.reduceBEq, String.reduceEq, e, vsz_, Nat.zero_le, okEq_lst, okEq_nil, eqD_nil, filter_any]
      simp -implicitDefEqProofs only [show a.any (litT r) = false from h, eev_cst, eev_var, eev_tupD, eev_lstD, eev_dic0, eev_bin, eev_neg, eev_cmp, eev_isN, eev_chn, eev_notE, eev_andE, eev_orE, eev_ite, eev_sub, eev_slc, eev_rev, eev_call, eev_bi, eev_isi, eev_lc, eev_dc, eev_sortK, eevs_nil, eevs_cons, eevO_no, eevO_so, eevT_tru, eevT_nt, eevT_an, eevT_or, eevL_ex, eevL_rng1, eevL_rng2, eevL_zip, eex_set, eex_par, eex_setI, eex_app, eex_exp, eex_ifs, eex_fr, eex_ret, eex_retN, eex_never, eexs_nil, eexs_cons, vmk_var, vmk_cst, vmk_tupD, vmk_lstD, vmk_dic0, vmk_bin, vmk_neg, vmk_cmp, vmk_isN, vmk_chn, vmk_notE, vmk_andE, vmk_orE, vmk_ite, vmk_sub, vmk_slc, vmk_rev, vmk_call, vmk_bi, vmk_isi, vmk_lc, vmk_dc, vmk_sortK, vbd_ok, vbd_st, vts_ok, vsq_nx, vsq_rt, vnx_ok, voO_some, vb1_bl, vgt_val, vgt_slot, vgs_nil, vgs_cons, vrv_, vso_nil, vso_val, vso_slot, vo1_, vo2_, voN_, voL_, vsu_, vag_nm, vag_tp, vsa_nil, vsa_cons, vwp_nil, vwp_cons, vbk_nil, vbk_cons, var_nil, var_val, var_slot, var_mut, vbo_nil, vbo_false, vbo_true, vpm_nil, vpm_cons, vco_, vevTo_no, vevTo_so, vsp_, vil_, vap_, vou_nil, vou_false, vou_true, vsh_tup, vsh_int, vsh_bl, vsh_non, vsh_str, vsh_frl, vsh_lst, vsh_dic, vsr_tup, vsr_int, vsr_bl, vsr_non, vsr_str, vsr_frl, vsr_lstF, vsr_lstT, vsr_dicF, vsr_dicT, vss_int, vss_nil, vss_cons, vbn_add, vbn_sub, vbn_mul, vbn_pow, vbn_mod, vbn_div, vbn_tup, vbn_lst, vcm_lt, vcm_le, vcm_gt, vcm_ge, vcm_eq, vcm_ne, vcm_eqB, vcm_neB, vcm_in, vcm_notin, vcm_eqT, vcm_neT, vcm_eqL, vcm_neL, vtr_bl, vtr_int, vtr_tup, vtr_lst, vtr_non, vno_, vng_, viN_non, viN_tup, viN_int, viN_bl, viN_str, viN_lst, viN_dic, vii_int, vii_bool, vii_str, vii_tuple, vii_list, vii_dict, vty_non, vty_bl, vty_int, vty_str, vty_tup, vty_lst, vty_frl, vty_dic, vbi_lenT, vbi_lenL, vbi_lenF, vbi_lenD, vbi_abs, vbi_intI, vbi_intB, vbi_max2, vbi_min2, vbi_maxL, vbi_minL, vbi_sum, vbi_all, vbi_any, vbi_listT, vbi_listL, vbi_tupT, vbi_tupL, vbi_sortL, vbi_sortD, vwk_tup, vwk_lst, vr1_, vr2_, vzp_tt, vzp_ll, vsb_tup, vsb_lst, vsb_frl, vsb_dic, vsl_tup, vsl_lst, vrv_lst, vsk_abs, vjn_s, vsg_, vcx_cl, vfi_rt, vfi_nx, List.getElem?_cons_zero, List.getElem?_cons_succ, List.set_cons_zero, List.set_cons_succ, Option.map_some, Option.map_none, Option.bind_some, List.length_cons, List.length_nil, Nat.reduceAdd, Nat.reduceLT, Nat.reduceSub, reduceIte, Bool.not_true, Bool.not_false, Bool.and_true, Bool.true_and, Bool.and_false, Bool.false_and, Bool.or_true, Bool.true_or, Bool.or_false, Bool.false_or, vcx_sg, Bool.false_eq_true, if_false, if_true, List.nil_append, String.reduceBEq, String.reduceEq])
  rcases L with ⟨h, ρ', e, o, rfl⟩ | ⟨h, ρ', e, o, rfl⟩
  · simp -implicitDefEqProofs only [c__law_holds, b__law_holds, eev_cst, eev_var, eev_tupD, eev_lstD, eev_dic0, eev_bin, eev_neg, eev_cmp, eev_isN, eev_chn, eev_notE, eev_andE, eev_orE, eev_ite, eev_sub, eev_slc, eev_rev, eev_call, eev_bi, eev_isi, eev_lc, eev_dc, eev_sortK, eevs_nil, eevs_cons, eevO_no, eevO_so, eevT_tru, eevT_nt, eevT_an, eevT_or, eevL_ex, eevL_rng1, eevL_rng2, eevL_zip, eex_set, eex_par, eex_setI, eex_app, eex_exp, eex_ifs, eex_fr, eex_ret, eex_retN, eex_never, eexs_nil, eexs_cons, vmk_var, vmk_cst, vmk_tupD, vmk_lstD, vmk_dic0, vmk_bin, vmk_neg, vmk_cmp, vmk_isN, vmk_chn, vmk_notE, vmk_andE, vmk_orE, vmk_ite, vmk_sub, vmk_slc, vmk_rev, vmk_call, vmk_bi, vmk_isi, vmk_lc, vmk_dc, vmk_sortK, vbd_ok, vbd_st, vts_ok, vsq_nx, vsq_rt, vnx_ok, voO_some, vb1_bl, vgt_val, vgt_slot, vgs_nil, vgs_cons, vrv_, vso_nil, vso_val, vso_slot, vo1_, vo2_, voN_, voL_, vsu_, vag_nm, vag_tp, vsa_nil, vsa_cons, vwp_nil, vwp_cons, vbk_nil, vbk_cons, var_nil, var_val, var_slot, var_mut, vbo_nil, vbo_false, vbo_true, vpm_nil, vpm_cons, vco_, vevTo_no, vevTo_so, vsp_, vil_, vap_, vou_nil, vou_false, vou_true, vsh_tup, vsh_int, vsh_bl, vsh_non, vsh_str, vsh_frl, vsh_lst, vsh_dic, vsr_tup, vsr_int, vsr_bl, vsr_non, vsr_str, vsr_frl, vsr_lstF, vsr_lstT, vsr_dicF, vsr_dicT, vss_int, vss_nil, vss_cons, vbn_add, vbn_sub, vbn_mul, vbn_pow, vbn_mod, vbn_div, vbn_tup, vbn_lst, vcm_lt, vcm_le, vcm_gt, vcm_ge, vcm_eq, vcm_ne, vcm_eqB, vcm_neB, vcm_in, vcm_notin, vcm_eqT, vcm_neT, vcm_eqL, vcm_neL, vtr_bl, vtr_int, vtr_tup, vtr_lst, vtr_non, vno_, vng_, viN_non, viN_tup, viN_int, viN_bl, viN_str, viN_lst, viN_dic, vii_int, vii_bool, vii_str, vii_tuple, vii_list, vii_dict, vty_non, vty_bl, vty_int, vty_str, vty_tup, vty_lst, vty_frl, vty_dic, vbi_lenT, vbi_lenL, vbi_lenF, vbi_lenD, vbi_abs, vbi_intI, vbi_intB, vbi_max2, vbi_min2, vbi_maxL, vbi_minL, vbi_sum, vbi_all, vbi_any, vbi_listT, vbi_listL, vbi_tupT, vbi_tupL, vbi_sortL, vbi_sortD, vwk_tup, vwk_lst, vr1_, vr2_, vzp_tt, vzp_ll, vsb_tup, vsb_lst, vsb_frl, vsb_dic, vsl_tup, vsl_lst, vrv_lst, vsk_abs, vjn_s, vsg_, vcx_cl, vfi_rt, vfi_nx, List.getElem?_cons_zero, List.getElem?_cons_succ, List.set_cons_zero, List.set_cons_succ, Option.map_some, Option.map_none, Option.bind_some, List.length_cons, List.length_nil, Nat.reduceAdd, Nat.reduceLT, Nat.reduceSub, reduceIte, Bool.not_true, Bool.not_false, Bool.and_true, Bool.true_and, Bool.and_false, Bool.false_and, Bool.or_true, Bool.true_or, Bool.or_false, Bool.false_or, vcx_sg, Bool.false_eq_true, if_false, if_true, List.nil_append, String.reduceBEq, String.reduceEq, e, h]
  · simp -implicitDefEqProofs only [c__law_holds, b__law_holds, eev_cst, eev_var, eev_tupD, eev_lstD, eev_dic0, eev_bin, eev_neg, eev_cmp, eev_isN, eev_chn, eev_notE, eev_andE, eev_orE, eev_ite, eev_sub, eev_slc, eev_rev, eev_call, eev_bi, eev_isi, eev_lc, eev_dc, eev_sortK, eevs_nil, eevs_cons, eevO_no, eevO_so, eevT_tru, eevT_nt, eevT_an, eevT_or, eevL_ex, eevL_rng1, eevL_rng2, eevL_zip, eex_set, eex_par, eex_setI, eex_app, eex_exp, eex_ifs, eex_fr, eex_ret, eex_retN, eex_never, eexs_nil, eexs_cons, vmk_var, vmk_cst, vmk_tupD, vmk_lstD, vmk_dic0, vmk_bin, vmk_neg, vmk_cmp, vmk_isN, vmk_chn, vmk_notE, vmk_andE, vmk_orE, vmk_ite, vmk_sub, vmk_slc, vmk_rev, vmk_call, vmk_bi, vmk_isi, vmk_lc, vmk_dc, vmk_sortK, vbd_ok, vbd_st, vts_ok, vsq_nx, vsq_rt, vnx_ok, voO_some, vb1_bl, vgt_val, vgt_slot, vgs_nil, vgs_cons, vrv_, vso_nil, vso_val, vso_slot, vo1_, vo2_, voN_, voL_, vsu_, vag_nm, vag_tp, vsa_nil, vsa_cons, vwp_nil, vwp_cons, vbk_nil, vbk_cons, var_nil, var_val, var_slot, var_mut, vbo_nil, vbo_false, vbo_true, vpm_nil, vpm_cons, vco_, vevTo_no, vevTo_so, vsp_, vil_, vap_, vou_nil, vou_false, vou_true, vsh_tup, vsh_int, vsh_bl, vsh_non, vsh_str, vsh_frl, vsh_lst, vsh_dic, vsr_tup, vsr_int, vsr_bl, vsr_non, vsr_str, vsr_frl, vsr_lstF, vsr_lstT, vsr_dicF, vsr_dicT, vss_int, vss_nil, vss_cons, vbn_add, vbn_sub, vbn_mul, vbn_pow, vbn_mod, vbn_div, vbn_tup, vbn_lst, vcm_lt, vcm_le, vcm_gt, vcm_ge, vcm_eq, vcm_ne, vcm_eqB, vcm_neB, vcm_in, vcm_notin, vcm_eqT, vcm_neT, vcm_eqL, vcm_neL, vtr_bl, vtr_int, vtr_tup, vtr_lst, vtr_non, vno_, vng_, viN_non, viN_tup, viN_int, viN_bl, viN_str, viN_lst, viN_dic, vii_int, vii_bool, vii_str, vii_tuple, vii_list, vii_dict, vty_non, vty_bl, vty_int, vty_str, vty_tup, vty_lst, vty_frl, vty_dic, vbi_lenT, vbi_lenL, vbi_lenF, vbi_lenD, vbi_abs, vbi_intI, vbi_intB, vbi_max2, vbi_min2, vbi_maxL, vbi_minL, vbi_sum, vbi_all, vbi_any, vbi_listT, vbi_listL, vbi_tupT, vbi_tupL, vbi_sortL, vbi_sortD, vwk_tup, vwk_lst, vr1_, vr2_, vzp_tt, vzp_ll, vsb_tup, vsb_lst, vsb_frl, vsb_dic, vsl_tup, vsl_lst, vrv_lst, vsk_abs, vjn_s, vsg_, vcx_cl, vfi_rt, vfi_nx, List.getElem?_cons_zero, List.getElem?_cons_succ, List.set_cons_zero, List.set_cons_succ, Option.map_some, Option.map_none, Option.bind_some, List.length_cons, List.length_nil, Nat.reduceAdd, Nat.reduceLT, Nat.reduceSub, reduceIte, Bool.not_true, Bool.not_false, Bool.and_true, Bool.true_and, Bool.and_false, Bool.false_and, Bool.or_true, Bool.true_or, Bool.or_false, Bool.false_or, vcx_sg, Bool.false_eq_true, if_false, if_true, List.nil_append, String.reduceBEq, String.reduceEq, e, h]
end KLaw
namespace KLaw
open PySem PySem.Spec PyProof.Rows L2 DE

open CL
/-! ### the law's own resolution -/
theorem tn_lc (c : DE.Ctx) (a b : List Int) : lcL [4] (.nm 4) (some (evT c (.tru (.cmp .In (.bin .Sub (.cst (.int 0)) (.var 4)) (.var 1))))) (ev c (.var 4)) (a.map .int) [] [some (T a), some (T b), none, none, none, none] = .ok ((tn a b).map .int) [some (T a), some (T b), none, none, none, none] :=
  lcL_fil (own := [4]) (tg := .nm 4) D.int D.int (fun x => b.contains (-x)) (ρ := [some (T a), some (T b), none, none, none, none]) a [] (fun x hx => by
    refine ⟨_, [some (T a), some (T b), none, none, some (.int x), none], rfl, ?_, fun _ => ⟨[some (T a), some (T b), none, none, some (.int x), none], ?_, rfl⟩, fun _ => rfl⟩
    · simp -implicitDefEqProofs only [eev_cst, eev_var, eev_tupD, eev_lstD, eev_dic0, eev_bin, eev_neg, eev_cmp, eev_isN, eev_chn, eev_notE, eev_andE, eev_orE, eev_ite, eev_sub, eev_slc, eev_rev, eev_call, eev_bi, eev_isi, eev_lc, eev_dc, eev_sortK, eevs_nil, eevs_cons, eevO_no, eevO_so, eevT_tru, eevT_nt, eevT_an, eevT_or, eevL_ex, eevL_rng1, eevL_rng2, eevL_zip, eex_set, eex_par, eex_setI, eex_app, eex_exp, eex_ifs, eex_fr, eex_ret, eex_retN, eex_never, eexs_nil, eexs_cons, vmk_var, vmk_cst, vmk_tupD, vmk_lstD, vmk_dic0, vmk_bin, vmk_neg, vmk_cmp, vmk_isN, vmk_chn, vmk_notE, vmk_andE, vmk_orE, vmk_ite, vmk_sub, vmk_slc, vmk_rev, vmk_call, vmk_bi, vmk_isi, vmk_lc, vmk_dc, vmk_sortK, vbd_ok, vbd_st, vts_ok, vsq_nx, vsq_rt, vnx_ok, voO_some, vb1_bl, vgt_val, vgt_slot, vgs_nil, vgs_cons, vrv_, vso_nil, vso_val, vso_slot, vo1_, vo2_, voN_, voL_, vsu_, vag_nm, vag_tp, vsa_nil, vsa_cons, vwp_nil, vwp_cons, vbk_nil, vbk_cons, var_nil, var_val, var_slot, var_mut, vbo_nil, vbo_false, vbo_true, vpm_nil, vpm_cons, vco_, vevTo_no, vevTo_so, vsp_, vil_, vap_, vou_nil, vou_false, vou_true, vsh_tup, vsh_int, vsh_bl, vsh_non, vsh_str, vsh_frl, vsh_lst, vsh_dic, vsr_tup, vsr_int, vsr_bl, vsr_non, vsr_str, vsr_frl, vsr_lstF, vsr_lstT, vsr_dicF, vsr_dicT, vss_int, vss_nil, vss_cons, vbn_add, vbn_sub, vbn_mul, vbn_pow, vbn_mod, vbn_div, vbn_tup, vbn_lst, vcm_lt, vcm_le, vcm_gt, vcm_ge, vcm_eq, vcm_ne, vcm_eqB, vcm_neB, vcm_in, vcm_notin, vcm_eqT, vcm_neT, vcm_eqL, vcm_neL, vtr_bl, vtr_int, vtr_tup, vtr_lst, vtr_non, vno_, vng_, viN_non, viN_tup, viN_int, viN_bl, viN_str, viN_lst, viN_dic, vii_int, vii_bool, vii_str, vii_tuple, vii_list, vii_dict, vty_non, vty_bl, vty_int, vty_str, vty_tup, vty_lst, vty_frl, vty_dic, vbi_lenT, vbi_lenL, vbi_lenF, vbi_lenD, vbi_abs, vbi_intI, vbi_intB, vbi_max2, vbi_min2, vbi_maxL, vbi_minL, vbi_sum, vbi_all, vbi_any, vbi_listT, vbi_listL, vbi_tupT, vbi_tupL, vbi_sortL, vbi_sortD, vwk_tup, vwk_lst, vr1_, vr2_, vzp_tt, vzp_ll, vsb_tup, vsb_lst, vsb_frl, vsb_dic, vsl_tup, vsl_lst, vrv_lst, vsk_abs, vjn_s, vsg_, vcx_cl, vfi_rt, vfi_nx, List.getElem?_cons_zero, List.getElem?_cons_succ, List.set_cons_zero, List.set_cons_succ, Option.map_some, Option.map_none, Option.bind_some, List.length_cons, List.length_nil, Nat.reduceAdd, Nat.reduceLT, Nat.reduceSub, reduceIte, Bool.not_true, Bool.not_false, Bool.and_true, Bool.true_and, Bool.and_false, Bool.false_and, Bool.or_true, Bool.true_or, Bool.or_false, Bool.false_or, vcx_sg, Bool.false_eq_true, if_false, if_true, List.nil_append, String.reduceBEq, String.reduceEq, in_int, Int.zero_sub]
    · simp -implicitDefEqProofs only [eev_cst, eev_var, eev_tupD, eev_lstD, eev_dic0, eev_bin, eev_neg, eev_cmp, eev_isN, eev_chn, eev_notE, eev_andE, eev_orE, eev_ite, eev_sub, eev_slc, eev_rev, eev_call, eev_bi, eev_isi, eev_lc, eev_dc, eev_sortK, eevs_nil, eevs_cons, eevO_no, eevO_so, eevT_tru, eevT_nt, eevT_an, eevT_or, eevL_ex, eevL_rng1, eevL_rng2, eevL_zip, eex_set, eex_par, eex_setI, eex_app, eex_exp, eex_ifs, eex_fr, eex_ret, eex_retN, eex_never, eexs_nil, eexs_cons, vmk_var, vmk_cst, vmk_tupD, vmk_lstD, vmk_dic0, vmk_bin, vmk_neg, vmk_cmp, vmk_isN, vmk_chn, vmk_notE, vmk_andE, vmk_orE, vmk_ite, vmk_sub, vmk_slc, vmk_rev, vmk_call, vmk_bi, vmk_isi, vmk_lc, vmk_dc, vmk_sortK, vbd_ok, vbd_st, vts_ok, vsq_nx, vsq_rt, vnx_ok, voO_some, vb1_bl, vgt_val, vgt_slot, vgs_nil, vgs_cons, vrv_, vso_nil, vso_val, vso_slot, vo1_, vo2_, voN_, voL_, vsu_, vag_nm, vag_tp, vsa_nil, vsa_cons, vwp_nil, vwp_cons, vbk_nil, vbk_cons, var_nil, var_val, var_slot, var_mut, vbo_nil, vbo_false, vbo_true, vpm_nil, vpm_cons, vco_, vevTo_no, vevTo_so, vsp_, vil_, vap_, vou_nil, vou_false, vou_true, vsh_tup, vsh_int, vsh_bl, vsh_non, vsh_str, vsh_frl, vsh_lst, vsh_dic, vsr_tup, vsr_int, vsr_bl, vsr_non, vsr_str, vsr_frl, vsr_lstF, vsr_lstT, vsr_dicF, vsr_dicT, vss_int, vss_nil, vss_cons, vbn_add, vbn_sub, vbn_mul, vbn_pow, vbn_mod, vbn_div, vbn_tup, vbn_lst, vcm_lt, vcm_le, vcm_gt, vcm_ge, vcm_eq, vcm_ne, vcm_eqB, vcm_neB, vcm_in, vcm_notin, vcm_eqT, vcm_neT, vcm_eqL, vcm_neL, vtr_bl, vtr_int, vtr_tup, vtr_lst, vtr_non, vno_, vng_, viN_non, viN_tup, viN_int, viN_bl, viN_str, viN_lst, viN_dic, vii_int, vii_bool, vii_str, vii_tuple, vii_list, vii_dict, vty_non, vty_bl, vty_int, vty_str, vty_tup, vty_lst, vty_frl, vty_dic, vbi_lenT, vbi_lenL, vbi_lenF, vbi_lenD, vbi_abs, vbi_intI, vbi_intB, vbi_max2, vbi_min2, vbi_maxL, vbi_minL, vbi_sum, vbi_all, vbi_any, vbi_listT, vbi_listL, vbi_tupT, vbi_tupL, vbi_sortL, vbi_sortD, vwk_tup, vwk_lst, vr1_, vr2_, vzp_tt, vzp_ll, vsb_tup, vsb_lst, vsb_frl, vsb_dic, vsl_tup, vsl_lst, vrv_lst, vsk_abs, vjn_s, vsg_, vcx_cl, vfi_rt, vfi_nx, List.getElem?_cons_zero, List.getElem?_cons_succ, List.set_cons_zero, List.set_cons_succ, Option.map_some, Option.map_none, Option.bind_some, List.length_cons, List.length_nil, Nat.reduceAdd, Nat.reduceLT, Nat.reduceSub, reduceIte, Bool.not_true, Bool.not_false, Bool.and_true, Bool.true_and, Bool.and_false, Bool.false_and, Bool.or_true, Bool.true_or, Bool.or_false, Bool.false_or, vcx_sg, Bool.false_eq_true, if_false, if_true, List.nil_append, String.reduceBEq, String.reduceEq])
/-- the dict behind some of the items -/
def mdF (t : Int) (m : List (Int × Int)) (x : Int) : List (Int × Int) := if (!decide (ab x = ab t)) = true then putI m (ab x) x else m
theorem mdF_len (t : Int) (l : List Int) (m : List (Int × Int)) : (l.foldl (mdF t) m).length ≤ m.length + l.length := by
  induction l generalizing m with
  | nil => simp
  | cons x r ih =>
    rw [List.foldl_cons]
    have := ih (mdF t m x)
    have h : (mdF t m x).length ≤ m.length + 1 := by
      unfold mdF; split
      · exact putI_length _ _ _
      · omega
    simp -implicitDefEqProofs only [List.length_cons]; omega
theorem isk_int (i : Int) : isKey (.int i) = true := rfl
theorem keys_ok (m : List (Int × Int)) : ((m.map cvP).all fun p => isKey p.1 && shd p.2) = true := by
  rw [List.all_map]; exact List.all_eq_true.mpr fun p _ => rfl
theorem law_made_ok (k : Nat) (a b : List Int) (ha : a.length ≤ 16) (hb : b.length ≤ 16) : callK tab (k + 1) "_law_made" [T a, T b] = .ok (RD a b) [] := by
  have e1 := tn_lc (cxT tab k) a b
  simp -implicitDefEqProofs only [c__law_made, b__law_made, q__law_made_0, q__law_made_1, q__law_made_2, eev_cst, eev_var, eev_tupD, eev_lstD, eev_dic0, eev_bin, eev_neg, eev_cmp, eev_isN, eev_chn, eev_notE, eev_andE, eev_orE, eev_ite, eev_sub, eev_slc, eev_rev, eev_call, eev_bi, eev_isi, eev_lc, eev_dc, eev_sortK, eevs_nil, eevs_cons, eevO_no, eevO_so, eevT_tru, eevT_nt, eevT_an, eevT_or, eevL_ex, eevL_rng1, eevL_rng2, eevL_zip, eex_set, eex_par, eex_setI, eex_app, eex_exp, eex_ifs, eex_fr, eex_ret, eex_retN, eex_never, eexs_nil, eexs_cons, vmk_var, vmk_cst, vmk_tupD, vmk_lstD, vmk_dic0, vmk_bin, vmk_neg, vmk_cmp, vmk_isN, vmk_chn, vmk_notE, vmk_andE, vmk_orE, vmk_ite, vmk_sub, vmk_slc, vmk_rev, vmk_call, vmk_bi, vmk_isi, vmk_lc, vmk_dc, vmk_sortK, vbd_ok, vbd_st, vts_ok, vsq_nx, vsq_rt, vnx_ok, voO_some, vb1_bl, vgt_val, vgt_slot, vgs_nil, vgs_cons, vrv_, vso_nil, vso_val, vso_slot, vo1_, vo2_, voN_, voL_, vsu_, vag_nm, vag_tp, vsa_nil, vsa_cons, vwp_nil, vwp_cons, vbk_nil, vbk_cons, var_nil, var_val, var_slot, var_mut, vbo_nil, vbo_false, vbo_true, vpm_nil, vpm_cons, vco_, vevTo_no, vevTo_so, vsp_, vil_, vap_, vou_nil, vou_false, vou_true, vsh_tup, vsh_int, vsh_bl, vsh_non, vsh_str, vsh_frl, vsh_lst, vsh_dic, vsr_tup, vsr_int, vsr_bl, vsr_non, vsr_str, vsr_frl, vsr_lstF, vsr_lstT, vsr_dicF, vsr_dicT, vss_int, vss_nil, vss_cons, vbn_add, vbn_sub, vbn_mul, vbn_pow, vbn_mod, vbn_div, vbn_tup, vbn_lst, vcm_lt, vcm_le, vcm_gt, vcm_ge, vcm_eq, vcm_ne, vcm_eqB, vcm_neB, vcm_in, vcm_notin, vcm_eqT, vcm_neT, vcm_eqL, vcm_neL, vtr_bl, vtr_int, vtr_tup, vtr_lst, vtr_non, vno_, vng_, viN_non, viN_tup, viN_int, viN_bl, viN_str, viN_lst, viN_dic, vii_int, vii_bool, vii_str, vii_tuple, vii_list, vii_dict, vty_non, vty_bl, vty_int, vty_str, vty_tup, vty_lst, vty_frl, vty_dic, vbi_lenT, vbi_lenL, vbi_lenF, vbi_lenD, vbi_abs, vbi_intI, vbi_intB, vbi_max2, vbi_min2, vbi_maxL, vbi_minL, vbi_sum, vbi_all, vbi_any, vbi_listT, vbi_listL, vbi_tupT, vbi_tupL, vbi_sortL, vbi_sortD, vwk_tup, vwk_lst, vr1_, vr2_, vzp_tt, vzp_ll, vsb_tup, vsb_lst, vsb_frl, vsb_dic, vsl_tup, vsl_lst, vrv_lst, vsk_abs, vjn_s, vsg_, vcx_cl, vfi_rt, vfi_nx, List.getElem?_cons_zero, List.getElem?_cons_succ, List.set_cons_zero, List.set_cons_succ, Option.map_some, Option.map_none, Option.bind_some, List.length_cons, List.length_nil, Nat.reduceAdd, Nat.reduceLT, Nat.reduceSub, reduceIte, Bool.not_true, Bool.not_false, Bool.and_true, Bool.true_and, Bool.and_false, Bool.false_and, Bool.or_true, Bool.true_or, Bool.or_false, Bool.false_or, vcx_sg, Bool.false_eq_true, if_false, if_true, List.nil_append, String.reduceBEq, String.reduceEq, e1, List.length_map]
  unfold RD made
  cases h : tn a b with
  | nil => simp -implicitDefEqProofs only [eev_cst, eev_var, eev_tupD, eev_lstD, eev_dic0, eev_bin, eev_neg, eev_cmp, eev_isN, eev_chn, eev_notE, eev_andE, eev_orE, eev_ite, eev_sub, eev_slc, eev_rev, eev_call, eev_bi, eev_isi, eev_lc, eev_dc, eev_sortK, eevs_nil, eevs_cons, eevO_no, eevO_so, eevT_tru, eevT_nt, eevT_an, eevT_or, eevL_ex, eevL_rng1, eevL_rng2, eevL_zip, eex_set, eex_par, eex_setI, eex_app, eex_exp, eex_ifs, eex_fr, eex_ret, eex_retN, eex_never, eexs_nil, eexs_cons, vmk_var, vmk_cst, vmk_tupD, vmk_lstD, vmk_dic0, vmk_bin, vmk_neg, vmk_cmp, vmk_isN, vmk_chn, vmk_notE, vmk_andE, vmk_orE, vmk_ite, vmk_sub, vmk_slc, vmk_rev, vmk_call, vmk_bi, vmk_isi, vmk_lc, vmk_dc, vmk_sortK, vbd_ok, vbd_st, vts_ok, vsq_nx, vsq_rt, vnx_ok, voO_some, vb1_bl, vgt_val, vgt_slot, vgs_nil, vgs_cons, vrv_, vso_nil, vso_val, vso_slot, vo1_, vo2_, voN_, voL_, vsu_, vag_nm, vag_tp, vsa_nil, vsa_cons, vwp_nil, vwp_cons, vbk_nil, vbk_cons, var_nil, var_val, var_slot, var_mut, vbo_nil, vbo_false, vbo_true, vpm_nil, vpm_cons, vco_, vevTo_no, vevTo_so, vsp_, vil_, vap_, vou_nil, vou_false, vou_true, vsh_tup, vsh_int, vsh_bl, vsh_non, vsh_str, vsh_frl, vsh_lst, vsh_dic, vsr_tup, vsr_int, vsr_bl, vsr_non, vsr_str, vsr_frl, vsr_lstF, vsr_lstT, vsr_dicF, vsr_dicT, vss_int, vss_nil, vss_cons, vbn_add, vbn_sub, vbn_mul, vbn_pow, vbn_mod, vbn_div, vbn_tup, vbn_lst, vcm_lt, vcm_le, vcm_gt, vcm_ge, vcm_eq, vcm_ne, vcm_eqB, vcm_neB, vcm_in, vcm_notin, vcm_eqT, vcm_neT, vcm_eqL, vcm_neL, vtr_bl, vtr_int, vtr_tup, vtr_lst, vtr_non, vno_, vng_, viN_non, viN_tup, viN_int, viN_bl, viN_str, viN_lst, viN_dic, vii_int, vii_bool, vii_str, vii_tuple, vii_list, vii_dict, vty_non, vty_bl, vty_int, vty_str, vty_tup, vty_lst, vty_frl, vty_dic, vbi_lenT, vbi_lenL, vbi_lenF, vbi_lenD, vbi_abs, vbi_intI, vbi_intB, vbi_max2, vbi_min2, vbi_maxL, vbi_minL, vbi_sum, vbi_all, vbi_any, vbi_listT, vbi_listL, vbi_tupT, vbi_tupL, vbi_sortL, vbi_sortD, vwk_tup, vwk_lst, vr1_, vr2_, vzp_tt, vzp_ll, vsb_tup, vsb_lst, vsb_frl, vsb_dic, vsl_tup, vsl_lst, vrv_lst, vsk_abs, vjn_s, vsg_, vcx_cl, vfi_rt, vfi_nx, List.getElem?_cons_zero, List.getElem?_cons_succ, List.set_cons_zero, List.set_cons_succ, Option.map_some, Option.map_none, Option.bind_some, List.length_cons, List.length_nil, Nat.reduceAdd, Nat.reduceLT, Nat.reduceSub, reduceIte, Bool.not_true, Bool.not_false, Bool.and_true, Bool.true_and, Bool.and_false, Bool.false_and, Bool.or_true, Bool.true_or, Bool.or_false, Bool.false_or, vcx_sg, Bool.false_eq_true, if_false, if_true, List.nil_append, String.reduceBEq, String.reduceEq, List.length_nil]; rfl
  | cons t r =>
    cases r with
    | cons u r =>
      have hn : decide (((r.length + 1 + 1 : Nat) : Int) = 1) = false := decide_eq_false (by omega)
      simp -implicitDefEqProofs only [eev_cst, eev_var, eev_tupD, eev_lstD, eev_dic0, eev_bin, eev_neg, eev_cmp, eev_isN, eev_chn, eev_notE, eev_andE, eev_orE, eev_ite, eev_sub, eev_slc, eev_rev, eev_call, eev_bi, eev_isi, eev_lc, eev_dc, eev_sortK, eevs_nil, eevs_cons, eevO_no, eevO_so, eevT_tru, eevT_nt, eevT_an, eevT_or, eevL_ex, eevL_rng1, eevL_rng2, eevL_zip, eex_set, eex_par, eex_setI, eex_app, eex_exp, eex_ifs, eex_fr, eex_ret, eex_retN, eex_never, eexs_nil, eexs_cons, vmk_var, vmk_cst, vmk_tupD, vmk_lstD, vmk_dic0, vmk_bin, vmk_neg, vmk_cmp, vmk_isN, vmk_chn, vmk_notE, vmk_andE, vmk_orE, vmk_ite, vmk_sub, vmk_slc, vmk_rev, vmk_call, vmk_bi, vmk_isi, vmk_lc, vmk_dc, vmk_sortK, vbd_ok, vbd_st, vts_ok, vsq_nx, vsq_rt, vnx_ok, voO_some, vb1_bl, vgt_val, vgt_slot, vgs_nil, vgs_cons, vrv_, vso_nil, vso_val, vso_slot, vo1_, vo2_, voN_, voL_, vsu_, vag_nm, vag_tp, vsa_nil, vsa_cons, vwp_nil, vwp_cons, vbk_nil, vbk_cons, var_nil, var_val, var_slot, var_mut, vbo_nil, vbo_false, vbo_true, vpm_nil, vpm_cons, vco_, vevTo_no, vevTo_so, vsp_, vil_, vap_, vou_nil, vou_false, vou_true, vsh_tup, vsh_int, vsh_bl, vsh_non, vsh_str, vsh_frl, vsh_lst, vsh_dic, vsr_tup, vsr_int, vsr_bl, vsr_non, vsr_str, vsr_frl, vsr_lstF, vsr_lstT, vsr_dicF, vsr_dicT, vss_int, vss_nil, vss_cons, vbn_add, vbn_sub, vbn_mul, vbn_pow, vbn_mod, vbn_div, vbn_tup, vbn_lst, vcm_lt, vcm_le, vcm_gt, vcm_ge, vcm_eq, vcm_ne, vcm_eqB, vcm_neB, vcm_in, vcm_notin, vcm_eqT, vcm_neT, vcm_eqL, vcm_neL, vtr_bl, vtr_int, vtr_tup, vtr_lst, vtr_non, vno_, vng_, viN_non, viN_tup, viN_int, viN_bl, viN_str, viN_lst, viN_dic, vii_int, vii_bool, vii_str, vii_tuple, vii_list, vii_dict, vty_non, vty_bl, vty_int, vty_str, vty_tup, vty_lst, vty_frl, vty_dic, vbi_lenT, vbi_lenL, vbi_lenF, vbi_lenD, vbi_abs, vbi_intI, vbi_intB, vbi_max2, vbi_min2, vbi_maxL, vbi_minL, vbi_sum, vbi_all, vbi_any, vbi_listT, vbi_listL, vbi_tupT, vbi_tupL, vbi_sortL, vbi_sortD, vwk_tup, vwk_lst, vr1_, vr2_, vzp_tt, vzp_ll, vsb_tup, vsb_lst, vsb_frl, vsb_dic, vsl_tup, vsl_lst, vrv_lst, vsk_abs, vjn_s, vsg_, vcx_cl, vfi_rt, vfi_nx, List.getElem?_cons_zero, List.getElem?_cons_succ, List.set_cons_zero, List.set_cons_succ, Option.map_some, Option.map_none, Option.bind_some, List.length_cons, List.length_nil, Nat.reduceAdd, Nat.reduceLT, Nat.reduceSub, reduceIte, Bool.not_true, Bool.not_false, Bool.and_true, Bool.true_and, Bool.and_false, Bool.false_and, Bool.or_true, Bool.true_or, Bool.or_false, Bool.false_or, vcx_sg, Bool.false_eq_true, if_false, if_true, List.nil_append, String.reduceBEq, String.reduceEq, hn]
    | nil =>
      have h0 : DE.ixD (0 + 1) 0 = some 0 := rfl
      have hd1 : decide (((1 : Nat) : Int) = 1) = true := rfl
      obtain ⟨ρ', e, o, rfl⟩ := forL_pre (tg := .nm 4) (body := exs (cxT tab k) b__law_made_3) D.int (fun pre ρ => ∃ o, ρ = [some (T a), some (T b), some (.lst true [.int t]), some (.dic true ((pre.foldl (mdF t) []).map cvP)), o, none]) (a ++ b) [] [some (T a), some (T b), some (.lst true [.int t]), some (.dic true []), none, none] ⟨_, rfl⟩ (by
        rintro p x q hpq ρ ⟨o, rfl⟩
        have hp : p.length ≤ 32 := by
          have := congrArg List.length hpq
          simp -implicitDefEqProofs only [List.nil_append, List.length_append, List.length_cons] at this
          omega
        have hm := mdF_len t p []
        simp -implicitDefEqProofs only [List.length_nil] at hm
        generalize hM : p.foldl (mdF t) [] = M at hm
        refine ⟨_, [some (T a), some (T b), some (.lst true [.int t]), some (.dic true ((mdF t M x).map cvP)), some (.int x), none], rfl, ?_, some (.int x), by rw [List.foldl_append, hM]; rfl⟩
        have hab : ∀ z : Int, (if z < 0 then -z else z) = ab z := fun z => rfl
        unfold mdF
        by_cases hx : ab x = ab t
        · simp -implicitDefEqProofs only [b__law_made_3, q__law_made_3_0, eev_cst, eev_var, eev_tupD, eev_lstD, eev_dic0, eev_bin, eev_neg, eev_cmp, eev_isN, eev_chn, eev_notE, eev_andE, eev_orE, eev_ite, eev_sub, eev_slc, eev_rev, eev_call, eev_bi, eev_isi, eev_lc, eev_dc, eev_sortK, eevs_nil, eevs_cons, eevO_no, eevO_so, eevT_tru, eevT_nt, eevT_an, eevT_or, eevL_ex, eevL_rng1, eevL_rng2, eevL_zip, eex_set, eex_par, eex_setI, eex_app, eex_exp, eex_ifs, eex_fr, eex_ret, eex_retN, eex_never, eexs_nil, eexs_cons, vmk_var, vmk_cst, vmk_tupD, vmk_lstD, vmk_dic0, vmk_bin, vmk_neg, vmk_cmp, vmk_isN, vmk_chn, vmk_notE, vmk_andE, vmk_orE, vmk_ite, vmk_sub, vmk_slc, vmk_rev, vmk_call, vmk_bi, vmk_isi, vmk_lc, vmk_dc, vmk_sortK, vbd_ok, vbd_st, vts_ok, vsq_nx, vsq_rt, vnx_ok, voO_some, vb1_bl, vgt_val, vgt_slot, vgs_nil, vgs_cons, vrv_, vso_nil, vso_val, vso_slot, vo1_, vo2_, voN_, voL_, vsu_, vag_nm, vag_tp, vsa_nil, vsa_cons, vwp_nil, vwp_cons, vbk_nil, vbk_cons, var_nil, var_val, var_slot, var_mut, vbo_nil, vbo_false, vbo_true, vpm_nil, vpm_cons, vco_, vevTo_no, vevTo_so, vsp_, vil_, vap_, vou_nil, vou_false, vou_true, vsh_tup, vsh_int, vsh_bl, vsh_non, vsh_str, vsh_frl, vsh_lst, vsh_dic, vsr_tup, vsr_int, vsr_bl, vsr_non, vsr_str, vsr_frl, vsr_lstF, vsr_lstT, vsr_dicF, vsr_dicT, vss_int, vss_nil, vss_cons, vbn_add, vbn_sub, vbn_mul, vbn_pow, vbn_mod, vbn_div, vbn_tup, vbn_lst, vcm_lt, vcm_le, vcm_gt, vcm_ge, vcm_eq, vcm_ne, vcm_eqB, vcm_neB, vcm_in, vcm_notin, vcm_eqT, vcm_neT, vcm_eqL, vcm_neL, vtr_bl, vtr_int, vtr_tup, vtr_lst, vtr_non, vno_, vng_, viN_non, viN_tup, viN_int, viN_bl, viN_str, viN_lst, viN_dic, vii_int, vii_bool, vii_str, vii_tuple, vii_list, vii_dict, vty_non, vty_bl, vty_int, vty_str, vty_tup, vty_lst, vty_frl, vty_dic, vbi_lenT, vbi_lenL, vbi_lenF, vbi_lenD, vbi_abs, vbi_intI, vbi_intB, vbi_max2, vbi_min2, vbi_maxL, vbi_minL, vbi_sum, vbi_all, vbi_any, vbi_listT, vbi_listL, vbi_tupT, vbi_tupL, vbi_sortL, vbi_sortD, vwk_tup, vwk_lst, vr1_, vr2_, vzp_tt, vzp_ll, vsb_tup, vsb_lst, vsb_frl, vsb_dic, vsl_tup, vsl_lst, vrv_lst, vsk_abs, vjn_s, vsg_, vcx_cl, vfi_rt, vfi_nx, List.getElem?_cons_zero, List.getElem?_cons_succ, List.set_cons_zero, List.set_cons_succ, Option.map_some, Option.map_none, Option.bind_some, List.length_cons, List.length_nil, Nat.reduceAdd, Nat.reduceLT, Nat.reduceSub, reduceIte, Bool.not_true, Bool.not_false, Bool.and_true, Bool.true_and, Bool.and_false, Bool.false_and, Bool.or_true, Bool.true_or, Bool.or_false, Bool.false_or, vcx_sg, Bool.false_eq_true, if_false, if_true, List.nil_append, String.reduceBEq, String.reduceEq, h0, hab, hx, decide_true, putD_int]
        · simp -implicitDefEqProofs (disch := omega) only [b__law_made_3, q__law_made_3_0, eev_cst, eev_var, eev_tupD, eev_lstD, eev_dic0, eev_bin, eev_neg, eev_cmp, eev_isN, eev_chn, eev_notE, eev_andE, eev_orE, eev_ite, eev_sub, eev_slc, eev_rev, eev_call, eev_bi, eev_isi, eev_lc, eev_dc, eev_sortK, eevs_nil, eevs_cons, eevO_no, eevO_so, eevT_tru, eevT_nt, eevT_an, eevT_or, eevL_ex, eevL_rng1, eevL_rng2, eevL_zip, eex_set, eex_par, eex_setI, eex_app, eex_exp, eex_ifs, eex_fr, eex_ret, eex_retN, eex_never, eexs_nil, eexs_cons, vmk_var, vmk_cst, vmk_tupD, vmk_lstD, vmk_dic0, vmk_bin, vmk_neg, vmk_cmp, vmk_isN, vmk_chn, vmk_notE, vmk_andE, vmk_orE, vmk_ite, vmk_sub, vmk_slc, vmk_rev, vmk_call, vmk_bi, vmk_isi, vmk_lc, vmk_dc, vmk_sortK, vbd_ok, vbd_st, vts_ok, vsq_nx, vsq_rt, vnx_ok, voO_some, vb1_bl, vgt_val, vgt_slot, vgs_nil, vgs_cons, vrv_, vso_nil, vso_val, vso_slot, vo1_, vo2_, voN_, voL_, vsu_, vag_nm, vag_tp, vsa_nil, vsa_cons, vwp_nil, vwp_cons, vbk_nil, vbk_cons, var_nil, var_val, var_slot, var_mut, vbo_nil, vbo_false, vbo_true, vpm_nil, vpm_cons, vco_, vevTo_no, vevTo_so, vsp_, vil_, vap_, vou_nil, vou_false, vou_true, vsh_tup, vsh_int, vsh_bl, vsh_non, vsh_str, vsh_frl, vsh_lst, vsh_dic, vsr_tup, vsr_int, vsr_bl, vsr_non, vsr_str, vsr_frl, vsr_lstF, vsr_lstT, vsr_dicF, vsr_dicT, vss_int, vss_nil, vss_cons, vbn_add, vbn_sub, vbn_mul, vbn_pow, vbn_mod, vbn_div, vbn_tup, vbn_lst, vcm_lt, vcm_le, vcm_gt, vcm_ge, vcm_eq, vcm_ne, vcm_eqB, vcm_neB, vcm_in, vcm_notin, vcm_eqT, vcm_neT, vcm_eqL, vcm_neL, vtr_bl, vtr_int, vtr_tup, vtr_lst, vtr_non, vno_, vng_, viN_non, viN_tup, viN_int, viN_bl, viN_str, viN_lst, viN_dic, vii_int, vii_bool, vii_str, vii_tuple, vii_list, vii_dict, vty_non, vty_bl, vty_int, vty_str, vty_tup, vty_lst, vty_frl, vty_dic, vbi_lenT, vbi_lenL, vbi_lenF, vbi_lenD, vbi_abs, vbi_intI, vbi_intB, vbi_max2, vbi_min2, vbi_maxL, vbi_minL, vbi_sum, vbi_all, vbi_any, vbi_listT, vbi_listL, vbi_tupT, vbi_tupL, vbi_sortL, vbi_sortD, vwk_tup, vwk_lst, vr1_, vr2_, vzp_tt, vzp_ll, vsb_tup, vsb_lst, vsb_frl, vsb_dic, vsl_tup, vsl_lst, vrv_lst, vsk_abs, vjn_s, vsg_, vcx_cl, vfi_rt, vfi_nx, List.getElem?_cons_zero, List.getElem?_cons_succ, List.set_cons_zero, List.set_cons_succ, Option.map_some, Option.map_none, Option.bind_some, List.length_cons, List.length_nil, Nat.reduceAdd, Nat.reduceLT, Nat.reduceSub, reduceIte, Bool.not_true, Bool.not_false, Bool.and_true, Bool.true_and, Bool.and_false, Bool.false_and, Bool.or_true, Bool.true_or, Bool.or_false, Bool.false_or, vcx_sg, Bool.false_eq_true, if_false, if_true, List.nil_append, String.reduceBEq, String.reduceEq, h0, hab, hx, decide_false, putD_int, isk_int, keys_ok, vsz_, List.length_map])
      have hl := mdF_len t (a ++ b) []
      have hl2 : (a ++ b).length ≤ 32 := by rw [List.length_append]; omega
      have e3 : (a ++ b).foldl (mdF t) [] = dicI (oth a b t) := by
        unfold dicI oth
        rw [List.foldl_filter]; rfl
      rw [List.nil_append, e3, List.map_append] at e
      rw [e3] at hl
      have hd : decide ((dicI (oth a b t)).length < 64) = true := decide_eq_true (by simp -implicitDefEqProofs only [List.length_nil] at hl; omega)
      simp -implicitDefEqProofs (disch := omega) only [q__law_made_3, q__law_made_4, eev_cst, eev_var, eev_tupD, eev_lstD, eev_dic0, eev_bin, eev_neg, eev_cmp, eev_isN, eev_chn, eev_notE, eev_andE, eev_orE, eev_ite, eev_sub, eev_slc, eev_rev, eev_call, eev_bi, eev_isi, eev_lc, eev_dc, eev_sortK, eevs_nil, eevs_cons, eevO_no, eevO_so, eevT_tru, eevT_nt, eevT_an, eevT_or, eevL_ex, eevL_rng1, eevL_rng2, eevL_zip, eex_set, eex_par, eex_setI, eex_app, eex_exp, eex_ifs, eex_fr, eex_ret, eex_retN, eex_never, eexs_nil, eexs_cons, vmk_var, vmk_cst, vmk_tupD, vmk_lstD, vmk_dic0, vmk_bin, vmk_neg, vmk_cmp, vmk_isN, vmk_chn, vmk_notE, vmk_andE, vmk_orE, vmk_ite, vmk_sub, vmk_slc, vmk_rev, vmk_call, vmk_bi, vmk_isi, vmk_lc, vmk_dc, vmk_sortK, vbd_ok, vbd_st, vts_ok, vsq_nx, vsq_rt, vnx_ok, voO_some, vb1_bl, vgt_val, vgt_slot, vgs_nil, vgs_cons, vrv_, vso_nil, vso_val, vso_slot, vo1_, vo2_, voN_, voL_, vsu_, vag_nm, vag_tp, vsa_nil, vsa_cons, vwp_nil, vwp_cons, vbk_nil, vbk_cons, var_nil, var_val, var_slot, var_mut, vbo_nil, vbo_false, vbo_true, vpm_nil, vpm_cons, vco_, vevTo_no, vevTo_so, vsp_, vil_, vap_, vou_nil, vou_false, vou_true, vsh_tup, vsh_int, vsh_bl, vsh_non, vsh_str, vsh_frl, vsh_lst, vsh_dic, vsr_tup, vsr_int, vsr_bl, vsr_non, vsr_str, vsr_frl, vsr_lstF, vsr_lstT, vsr_dicF, vsr_dicT, vss_int, vss_nil, vss_cons, vbn_add, vbn_sub, vbn_mul, vbn_pow, vbn_mod, vbn_div, vbn_tup, vbn_lst, vcm_lt, vcm_le, vcm_gt, vcm_ge, vcm_eq, vcm_ne, vcm_eqB, vcm_neB, vcm_in, vcm_notin, vcm_eqT, vcm_neT, vcm_eqL, vcm_neL, vtr_bl, vtr_int, vtr_tup, vtr_lst, vtr_non, vno_, vng_, viN_non, viN_tup, viN_int, viN_bl, viN_str, viN_lst, viN_dic, vii_int, vii_bool, vii_str, vii_tuple, vii_list, vii_dict, vty_non, vty_bl, vty_int, vty_str, vty_tup, vty_lst, vty_frl, vty_dic, vbi_lenT, vbi_lenL, vbi_lenF, vbi_lenD, vbi_abs, vbi_intI, vbi_intB, vbi_max2, vbi_min2, vbi_maxL, vbi_minL, vbi_sum, vbi_all, vbi_any, vbi_listT, vbi_listL, vbi_tupT, vbi_tupL, vbi_sortL, vbi_sortD, vwk_tup, vwk_lst, vr1_, vr2_, vzp_tt, vzp_ll, vsb_tup, vsb_lst, vsb_frl, vsb_dic, vsl_tup, vsl_lst, vrv_lst, vsk_abs, vjn_s, vsg_, vcx_cl, vfi_rt, vfi_nx, List.getElem?_cons_zero, List.getElem?_cons_succ, List.set_cons_zero, List.set_cons_succ, Option.map_some, Option.map_none, Option.bind_some, List.length_cons, List.length_nil, Nat.reduceAdd, Nat.reduceLT, Nat.reduceSub, reduceIte, Bool.not_true, Bool.not_false, Bool.and_true, Bool.true_and, Bool.and_false, Bool.false_and, Bool.or_true, Bool.true_or, Bool.or_false, Bool.false_or, vcx_sg, Bool.false_eq_true, if_false, if_true, List.nil_append, String.reduceBEq, String.reduceEq, hd1, vsz_, List.length_map, List.map_cons, List.map_nil, e, hd, keys_int, DE.ints_map, lc_res, shd_ints]
      rfl
/-! ### it follows -/
theorem litT_neg {r : List Int} {x : Int} (hx : 0 < ab x) (h : litT r x = true) (h' : litT r (-x) = true) : False := by
  have e : rv r (-x) = rv r x := by unfold rv; rw [ab_neg]
  have h1 := of_decide_eq_true h
  have h2 := of_decide_eq_true h'
  rw [e, h1] at h2
  unfold ab at hx
  by_cases q : 0 < x
  · have q' : ¬ (0 < -x) := by omega
    simp [q, q', b2I] at h2
    omega
  · have q' : 0 < -x := by split at hx <;> omega
    simp [q, q', b2I] at h2
    omega
theorem follows_ok (k : Nat) {a b c : List Int} (ha : Cl 5 a) (hb : Cl 5 b) (h : made a b = some c) : callK tab (k + 2) "_law_follows_right" [T a, T b, T c] = .ok (.bl true) [] := by
  have hc := made_cl ha hb h
  obtain ⟨ρ', e, o3, o4, rfl⟩ := forL_inv (tg := .nm 3) (body := exs (cxT tab (k + 1)) b__law_follows_right_0) T (fun ρ => ∃ o3 o4, ρ = [some (T a), some (T b), some (T c), o3, o4]) (rowsN 5) [some (T a), some (T b), some (T c), none, none] ⟨_, _, rfl⟩ (by
    rintro r hr ρ ⟨o3, o4, rfl⟩
    have hl := rows_len r hr
    have h2 := holds_ok k hl [a, b] (by intro x hx; simp at hx; rcases hx with q | q <;> (rw [q]; assumption))
    have h1 := holds_ok k hl [c] (by intro x hx; simp at hx; rw [hx]; exact hc)
    simp -implicitDefEqProofs only [List.map_cons, List.map_nil, List.all_cons, List.all_nil, Bool.and_true] at h1 h2
    refine ⟨_, [some (T a), some (T b), some (T c), some (T r), some (.bl (hB r a && hB r b))], rfl, ?_, _, _, rfl⟩
    have key : hB r a = true → hB r b = true → hB r c = true := fun h3 h4 => by
      obtain ⟨x, hx, tx⟩ := List.any_eq_true.mp h3
      obtain ⟨y, hy, ty⟩ := List.any_eq_true.mp h4
      obtain ⟨z, hz, tz⟩ := made_sound ha.asc hb.asc (fun x => litT r x = true) (fun x hx q q' => litT_neg (ha.lit x hx).1 q q') h ⟨x, hx, tx⟩ ⟨y, hy, ty⟩
      exact List.any_eq_true.mpr ⟨z, hz, tz⟩
    cases h3 : (hB r a && hB r b) with
    | false => simp -implicitDefEqProofs (disch := omega) only [b__law_follows_right_0, q__law_follows_right_0_0, q__law_follows_right_0_1, eev_cst, eev_var, eev_tupD, eev_lstD, eev_dic0, eev_bin, eev_neg, eev_cmp, eev_isN, eev_chn, eev_notE, eev_andE, eev_orE, eev_ite, eev_sub, eev_slc, eev_rev, eev_call, eev_bi, eev_isi, eev_lc, eev_dc, eev_sortK, eevs_nil, eevs_cons, eevO_no, eevO_so, eevT_tru, eevT_nt, eevT_an, eevT_or, eevL_ex, eevL_rng1, eevL_rng2, eevL_zip, eex_set, eex_par, eex_setI, eex_app, eex_exp, eex_ifs, eex_fr, eex_ret, eex_retN, eex_never, eexs_nil, eexs_cons, vmk_var, vmk_cst, vmk_tupD, vmk_lstD, vmk_dic0, vmk_bin, vmk_neg, vmk_cmp, vmk_isN, vmk_chn, vmk_notE, vmk_andE, vmk_orE, vmk_ite, vmk_sub, vmk_slc, vmk_rev, vmk_call, vmk_bi, vmk_isi, vmk_lc, vmk_dc, vmk_sortK, vbd_ok, vbd_st, vts_ok, vsq_nx, vsq_rt, vnx_ok, voO_some, vb1_bl, vgt_val, vgt_slot, vgs_nil, vgs_cons, vrv_, vso_nil, vso_val, vso_slot, vo1_, vo2_, voN_, voL_, vsu_, vag_nm, vag_tp, vsa_nil, vsa_cons, vwp_nil, vwp_cons, vbk_nil, vbk_cons, var_nil, var_val, var_slot, var_mut, vbo_nil, vbo_false, vbo_true, vpm_nil, vpm_cons, vco_, vevTo_no, vevTo_so, vsp_, vil_, vap_, vou_nil, vou_false, vou_true, vsh_tup, vsh_int, vsh_bl, vsh_non, vsh_str, vsh_frl, vsh_lst, vsh_dic, vsr_tup, vsr_int, vsr_bl, vsr_non, vsr_str, vsr_frl, vsr_lstF, vsr_lstT, vsr_dicF, vsr_dicT, vss_int, vss_nil, vss_cons, vbn_add, vbn_sub, vbn_mul, vbn_pow, vbn_mod, vbn_div, vbn_tup, vbn_lst, vcm_lt, vcm_le, vcm_gt, vcm_ge, vcm_eq, vcm_ne, vcm_eqB, vcm_neB, vcm_in, vcm_notin, vcm_eqT, vcm_neT, vcm_eqL, vcm_neL, vtr_bl, vtr_int, vtr_tup, vtr_lst, vtr_non, vno_, vng_, viN_non, viN_tup, viN_int, viN_bl, viN_str, viN_lst, viN_dic, vii_int, vii_bool, vii_str, vii_tuple, vii_list, vii_dict, vty_non, vty_bl, vty_int, vty_str, vty_tup, vty_lst, vty_frl, vty_dic, vbi_lenT, vbi_lenL, vbi_lenF, vbi_lenD, vbi_abs, vbi_intI, vbi_intB, vbi_max2, vbi_min2, vbi_maxL, vbi_minL, vbi_sum, vbi_all, vbi_any, vbi_listT, vbi_listL, vbi_tupT, vbi_tupL, vbi_sortL, vbi_sortD, vwk_tup, vwk_lst, vr1_, vr2_, vzp_tt, vzp_ll, vsb_tup, vsb_lst, vsb_frl, vsb_dic, vsl_tup, vsl_lst, vrv_lst, vsk_abs, vjn_s, vsg_, vcx_cl, vfi_rt, vfi_nx, List.getElem?_cons_zero, List.getElem?_cons_succ, List.set_cons_zero, List.set_cons_succ, Option.map_some, Option.map_none, Option.bind_some, List.length_cons, List.length_nil, Nat.reduceAdd, Nat.reduceLT, Nat.reduceSub, reduceIte, Bool.not_true, Bool.not_false, Bool.and_true, Bool.true_and, Bool.and_false, Bool.false_and, Bool.or_true, Bool.true_or, Bool.or_false, Bool.false_or, vcx_sg, Bool.false_eq_true, if_false, if_true, List.nil_append, String.reduceBEq, String.reduceEq, vsz_, t__law_holds, g__law_holds, h2, h3]
    | true =>
      have h4 := key (by rw [Bool.and_eq_true] at h3; exact h3.1) (by rw [Bool.and_eq_true] at h3; exact h3.2)
      simp -implicitDefEqProofs (disch := omega) only [b__law_follows_right_0, q__law_follows_right_0_0, q__law_follows_right_0_1, eev_cst, eev_var, eev_tupD, eev_lstD, eev_dic0, eev_bin, eev_neg, eev_cmp, eev_isN, eev_chn, eev_notE, eev_andE, eev_orE, eev_ite, eev_sub, eev_slc, eev_rev, eev_call, eev_bi, eev_isi, eev_lc, eev_dc, eev_sortK, eevs_nil, eevs_cons, eevO_no, eevO_so, eevT_tru, eevT_nt, eevT_an, eevT_or, eevL_ex, eevL_rng1, eevL_rng2, eevL_zip, eex_set, eex_par, eex_setI, eex_app, eex_exp, eex_ifs, eex_fr, eex_ret, eex_retN, eex_never, eexs_nil, eexs_cons, vmk_var, vmk_cst, vmk_tupD, vmk_lstD, vmk_dic0, vmk_bin, vmk_neg, vmk_cmp, vmk_isN, vmk_chn, vmk_notE, vmk_andE, vmk_orE, vmk_ite, vmk_sub, vmk_slc, vmk_rev, vmk_call, vmk_bi, vmk_isi, vmk_lc, vmk_dc, vmk_sortK, vbd_ok, vbd_st, vts_ok, vsq_nx, vsq_rt, vnx_ok, voO_some, vb1_bl, vgt_val, vgt_slot, vgs_nil, vgs_cons, vrv_, vso_nil, vso_val, vso_slot, vo1_, vo2_, voN_, voL_, vsu_, vag_nm, vag_tp, vsa_nil, vsa_cons, vwp_nil, vwp_cons, vbk_nil, vbk_cons, var_nil, var_val, var_slot, var_mut, vbo_nil, vbo_false, vbo_true, vpm_nil, vpm_cons, vco_, vevTo_no, vevTo_so, vsp_, vil_, vap_, vou_nil, vou_false, vou_true, vsh_tup, vsh_int, vsh_bl, vsh_non, vsh_str, vsh_frl, vsh_lst, vsh_dic, vsr_tup, vsr_int, vsr_bl, vsr_non, vsr_str, vsr_frl, vsr_lstF, vsr_lstT, vsr_dicF, vsr_dicT, vss_int, vss_nil, vss_cons, vbn_add, vbn_sub, vbn_mul, vbn_pow, vbn_mod, vbn_div, vbn_tup, vbn_lst, vcm_lt, vcm_le, vcm_gt, vcm_ge, vcm_eq, vcm_ne, vcm_eqB, vcm_neB, vcm_in, vcm_notin, vcm_eqT, vcm_neT, vcm_eqL, vcm_neL, vtr_bl, vtr_int, vtr_tup, vtr_lst, vtr_non, vno_, vng_, viN_non, viN_tup, viN_int, viN_bl, viN_str, viN_lst, viN_dic, vii_int, vii_bool, vii_str, vii_tuple, vii_list, vii_dict, vty_non, vty_bl, vty_int, vty_str, vty_tup, vty_lst, vty_frl, vty_dic, vbi_lenT, vbi_lenL, vbi_lenF, vbi_lenD, vbi_abs, vbi_intI, vbi_intB, vbi_max2, vbi_min2, vbi_maxL, vbi_minL, vbi_sum, vbi_all, vbi_any, vbi_listT, vbi_listL, vbi_tupT, vbi_tupL, vbi_sortL, vbi_sortD, vwk_tup, vwk_lst, vr1_, vr2_, vzp_tt, vzp_ll, vsb_tup, vsb_lst, vsb_frl, vsb_dic, vsl_tup, vsl_lst, vrv_lst, vsk_abs, vjn_s, vsg_, vcx_cl, vfi_rt, vfi_nx, List.getElem?_cons_zero, List.getElem?_cons_succ, List.set_cons_zero, List.set_cons_succ, Option.map_some, Option.map_none, Option.bind_some, List.length_cons, List.length_nil, Nat.reduceAdd, Nat.reduceLT, Nat.reduceSub, reduceIte, Bool.not_true, Bool.not_false, Bool.and_true, Bool.true_and, Bool.and_false, Bool.false_and, Bool.or_true, Bool.true_or, Bool.or_false, Bool.false_or, vcx_sg, Bool.false_eq_true, if_false, if_true, List.nil_append, String.reduceBEq, String.reduceEq, vsz_, t__law_holds, g__law_holds, h2, h3, h1, h4])
  simp -implicitDefEqProofs only [c__law_follows_right, b__law_follows_right, q__law_follows_right_0, q__law_follows_right_1, eev_cst, eev_var, eev_tupD, eev_lstD, eev_dic0, eev_bin, eev_neg, eev_cmp, eev_isN, eev_chn, eev_notE, eev_andE, eev_orE, eev_ite, eev_sub, eev_slc, eev_rev, eev_call, eev_bi, eev_isi, eev_lc, eev_dc, eev_sortK, eevs_nil, eevs_cons, eevO_no, eevO_so, eevT_tru, eevT_nt, eevT_an, eevT_or, eevL_ex, eevL_rng1, eevL_rng2, eevL_zip, eex_set, eex_par, eex_setI, eex_app, eex_exp, eex_ifs, eex_fr, eex_ret, eex_retN, eex_never, eexs_nil, eexs_cons, vmk_var, vmk_cst, vmk_tupD, vmk_lstD, vmk_dic0, vmk_bin, vmk_neg, vmk_cmp, vmk_isN, vmk_chn, vmk_notE, vmk_andE, vmk_orE, vmk_ite, vmk_sub, vmk_slc, vmk_rev, vmk_call, vmk_bi, vmk_isi, vmk_lc, vmk_dc, vmk_sortK, vbd_ok, vbd_st, vts_ok, vsq_nx, vsq_rt, vnx_ok, voO_some, vb1_bl, vgt_val, vgt_slot, vgs_nil, vgs_cons, vrv_, vso_nil, vso_val, vso_slot, vo1_, vo2_, voN_, voL_, vsu_, vag_nm, vag_tp, vsa_nil, vsa_cons, vwp_nil, vwp_cons, vbk_nil, vbk_cons, var_nil, var_val, var_slot, var_mut, vbo_nil, vbo_false, vbo_true, vpm_nil, vpm_cons, vco_, vevTo_no, vevTo_so, vsp_, vil_, vap_, vou_nil, vou_false, vou_true, vsh_tup, vsh_int, vsh_bl, vsh_non, vsh_str, vsh_frl, vsh_lst, vsh_dic, vsr_tup, vsr_int, vsr_bl, vsr_non, vsr_str, vsr_frl, vsr_lstF, vsr_lstT, vsr_dicF, vsr_dicT, vss_int, vss_nil, vss_cons, vbn_add, vbn_sub, vbn_mul, vbn_pow, vbn_mod, vbn_div, vbn_tup, vbn_lst, vcm_lt, vcm_le, vcm_gt, vcm_ge, vcm_eq, vcm_ne, vcm_eqB, vcm_neB, vcm_in, vcm_notin, vcm_eqT, vcm_neT, vcm_eqL, vcm_neL, vtr_bl, vtr_int, vtr_tup, vtr_lst, vtr_non, vno_, vng_, viN_non, viN_tup, viN_int, viN_bl, viN_str, viN_lst, viN_dic, vii_int, vii_bool, vii_str, vii_tuple, vii_list, vii_dict, vty_non, vty_bl, vty_int, vty_str, vty_tup, vty_lst, vty_frl, vty_dic, vbi_lenT, vbi_lenL, vbi_lenF, vbi_lenD, vbi_abs, vbi_intI, vbi_intB, vbi_max2, vbi_min2, vbi_maxL, vbi_minL, vbi_sum, vbi_all, vbi_any, vbi_listT, vbi_listL, vbi_tupT, vbi_tupL, vbi_sortL, vbi_sortD, vwk_tup, vwk_lst, vr1_, vr2_, vzp_tt, vzp_ll, vsb_tup, vsb_lst, vsb_frl, vsb_dic, vsl_tup, vsl_lst, vrv_lst, vsk_abs, vjn_s, vsg_, vcx_cl, vfi_rt, vfi_nx, List.getElem?_cons_zero, List.getElem?_cons_succ, List.set_cons_zero, List.set_cons_succ, Option.map_some, Option.map_none, Option.bind_some, List.length_cons, List.length_nil, Nat.reduceAdd, Nat.reduceLT, Nat.reduceSub, reduceIte, Bool.not_true, Bool.not_false, Bool.and_true, Bool.true_and, Bool.and_false, Bool.false_and, Bool.or_true, Bool.true_or, Bool.or_false, Bool.false_or, vcx_sg, Bool.false_eq_true, if_false, if_true, List.nil_append, String.reduceBEq, String.reduceEq, t__law_rows, g__law_rows, rows_ok k, e]
end KLaw
namespace KLaw
open PySem PySem.Spec PyProof.Rows L2 DE

open CL
/-! ### the law's drawing -/
theorem bits_le {x : Int} {m : Nat} (h : x.natAbs < 2 ^ m) : Builtin.Int.intBits x ≤ m := by
  unfold Builtin.Int.intBits
  split
  · omega
  · rename_i hx
    have hx : x.natAbs ≠ 0 := by simpa using hx
    have := (Nat.log2_lt hx).mpr h
    omega
theorem pow3 {x : Int} (h0 : 0 ≤ x) (h : x < 2 ^ 200) : (0 : Int) ≤ 3 ∧ (Builtin.Int.intBits x : Int) * 3 ≤ 2 ^ 27 := by
  have := bits_le (x := x) (m := 200) (by omega)
  exact ⟨by decide, by omega⟩
structure Bg (c : Nat) (d : D) : Prop where
  is : ∃ x y z : Int, d = .lst true [.int x, .int y, .int z] ∧ 0 ≤ x ∧ 0 ≤ y ∧ y < 10 ^ 27 ∧ 0 ≤ z ∧ z ≤ c
theorem Bg.le {c c' : Nat} {d : D} (h : Bg c d) (q : c ≤ c') : Bg c' d := by
  obtain ⟨x, y, z, h1, h2, h3, h4, h5, h6⟩ := h.is
  exact ⟨x, y, z, h1, h2, h3, h4, h5, by omega⟩
theorem log_lt {n : Int} (h1 : 1 ≤ n) (h2 : n ≤ 1000) : n.natAbs.log2 < 9000 := by
  have : n.natAbs ≠ 0 := by omega
  exact Nat.lt_of_lt_of_le ((Nat.log2_lt this).mpr (show n.natAbs < 2 ^ 10 by omega)) (by omega)
theorem ix3 (i : Nat) (h : i < 3) : DE.ixD 3 (i : Int) = some i := ixD_nat h
theorem take_ok (k : Nat) {c : Nat} {d : D} (h : Bg c d) (hc : c ≤ 2 ^ 29) {n : Int} (h1 : 1 ≤ n) (h2 : n ≤ 1000) : ∃ t d', callK tab (k + 1) "_law_take" [d, .int n] = .ok (.int t) [d'] ∧ 0 ≤ t ∧ t < n ∧ Bg (c + 1) d' := by
  obtain ⟨x, y, z, rfl, hx, hy, hy', hz, hz'⟩ := h.is
  have i0 : DE.ixD (0 + 1 + 1 + 1) 0 = some 0 := rfl
  have i1 : DE.ixD (0 + 1 + 1 + 1) 1 = some 1 := rfl
  have i2 : DE.ixD (0 + 1 + 1 + 1) 2 = some 2 := rfl
  have j0 : DE.ixD 3 0 = some 0 := rfl
  have j1 : DE.ixD 3 1 = some 1 := rfl
  have j2 : DE.ixD 3 2 = some 2 := rfl
  have hn : 0 < n := by omega
  have hg : 0 < n ∧ n.natAbs.log2 < 9000 := ⟨hn, log_lt h1 h2⟩
  by_cases hx0 : 0 < x
  · refine ⟨x % n, .lst true [.int (x / n), .int y, .int z], ?_, Int.emod_nonneg _ (by omega), Int.emod_lt_of_pos _ hn, ⟨_, _, _, rfl, Int.ediv_nonneg hx (by omega), hy, hy', hz, by omega⟩⟩
    simp -implicitDefEqProofs only [c__law_take, b__law_take, eev_cst, eev_var, eev_tupD, eev_lstD, eev_dic0, eev_bin, eev_neg, eev_cmp, eev_isN, eev_chn, eev_notE, eev_andE, eev_orE, eev_ite, eev_sub, eev_slc, eev_rev, eev_call, eev_bi, eev_isi, eev_lc, eev_dc, eev_sortK, eevs_nil, eevs_cons, eevO_no, eevO_so, eevT_tru, eevT_nt, eevT_an, eevT_or, eevL_ex, eevL_rng1, eevL_rng2, eevL_zip, eex_set, eex_par, eex_setI, eex_app, eex_exp, eex_ifs, eex_fr, eex_ret, eex_retN, eex_never, eexs_nil, eexs_cons, vmk_var, vmk_cst, vmk_tupD, vmk_lstD, vmk_dic0, vmk_bin, vmk_neg, vmk_cmp, vmk_isN, vmk_chn, vmk_notE, vmk_andE, vmk_orE, vmk_ite, vmk_sub, vmk_slc, vmk_rev, vmk_call, vmk_bi, vmk_isi, vmk_lc, vmk_dc, vmk_sortK, vbd_ok, vbd_st, vts_ok, vsq_nx, vsq_rt, vnx_ok, voO_some, vb1_bl, vgt_val, vgt_slot, vgs_nil, vgs_cons, vrv_, vso_nil, vso_val, vso_slot, vo1_, vo2_, voN_, voL_, vsu_, vag_nm, vag_tp, vsa_nil, vsa_cons, vwp_nil, vwp_cons, vbk_nil, vbk_cons, var_nil, var_val, var_slot, var_mut, vbo_nil, vbo_false, vbo_true, vpm_nil, vpm_cons, vco_, vevTo_no, vevTo_so, vsp_, vil_, vap_, vou_nil, vou_false, vou_true, vsh_tup, vsh_int, vsh_bl, vsh_non, vsh_str, vsh_frl, vsh_lst, vsh_dic, vsr_tup, vsr_int, vsr_bl, vsr_non, vsr_str, vsr_frl, vsr_lstF, vsr_lstT, vsr_dicF, vsr_dicT, vss_int, vss_nil, vss_cons, vbn_add, vbn_sub, vbn_mul, vbn_pow, vbn_mod, vbn_div, vbn_tup, vbn_lst, vcm_lt, vcm_le, vcm_gt, vcm_ge, vcm_eq, vcm_ne, vcm_eqB, vcm_neB, vcm_in, vcm_notin, vcm_eqT, vcm_neT, vcm_eqL, vcm_neL, vtr_bl, vtr_int, vtr_tup, vtr_lst, vtr_non, vno_, vng_, viN_non, viN_tup, viN_int, viN_bl, viN_str, viN_lst, viN_dic, vii_int, vii_bool, vii_str, vii_tuple, vii_list, vii_dict, vty_non, vty_bl, vty_int, vty_str, vty_tup, vty_lst, vty_frl, vty_dic, vbi_lenT, vbi_lenL, vbi_lenF, vbi_lenD, vbi_abs, vbi_intI, vbi_intB, vbi_max2, vbi_min2, vbi_maxL, vbi_minL, vbi_sum, vbi_all, vbi_any, vbi_listT, vbi_listL, vbi_tupT, vbi_tupL, vbi_sortL, vbi_sortD, vwk_tup, vwk_lst, vr1_, vr2_, vzp_tt, vzp_ll, vsb_tup, vsb_lst, vsb_frl, vsb_dic, vsl_tup, vsl_lst, vrv_lst, vsk_abs, vjn_s, vsg_, vcx_cl, vfi_rt, vfi_nx, List.getElem?_cons_zero, List.getElem?_cons_succ, List.set_cons_zero, List.set_cons_succ, Option.map_some, Option.map_none, Option.bind_some, List.length_cons, List.length_nil, Nat.reduceAdd, Nat.reduceLT, Nat.reduceSub, reduceIte, Bool.not_true, Bool.not_false, Bool.and_true, Bool.true_and, Bool.and_false, Bool.false_and, Bool.or_true, Bool.true_or, Bool.or_false, Bool.false_or, vcx_sg, Bool.false_eq_true, if_false, if_true, List.nil_append, String.reduceBEq, String.reduceEq, i0, j0, hx0, decide_true, if_pos hn, if_pos hg, List.all_cons, List.all_nil]
  · have hx1 : x = 0 := by omega
    subst hx1
    have p1 := pow3 (x := y + 86028157 * (z + 1)) (by omega) (by omega)
    have hm : (0 : Int) < 10 ^ Int.toNat 31 + 33 := by decide
    have p10 : (0 : Int) ≤ 31 ∧ (Builtin.Int.intBits 10 : Int) * 31 ≤ 2 ^ 27 := by decide
    have p33 : (0 : Int) ≤ 33 ∧ (Builtin.Int.intBits 10 : Int) * 33 ≤ 2 ^ 27 := by decide
    have p7 : (0 : Int) ≤ 7 ∧ (Builtin.Int.intBits 10 : Int) * 7 ≤ 2 ^ 27 := by decide
    have hm3 : (0 : Int) < 10 ^ Int.toNat 33 + 33 := by decide
    have hd7 : (0 : Int) < 10 ^ Int.toNat 7 ∧ ((10 : Int) ^ Int.toNat 7).natAbs.log2 < 9000 := by decide +kernel
    have hmu : (-(2 ^ 64) < (86028157 : Int) ∧ (86028157 : Int) < 2 ^ 64) ∨ (-(2 ^ 64) < z + 1 ∧ z + 1 < 2 ^ 64) := .inl (by decide)
    have q1 := Int.emod_nonneg ((y + 86028157 * (z + 1)) ^ Int.toNat 3) (show (10 : Int) ^ Int.toNat 31 + 33 ≠ 0 by decide)
    have q2 := Int.emod_lt_of_pos ((y + 86028157 * (z + 1)) ^ Int.toNat 3) hm
    generalize hM : (y + 86028157 * (z + 1)) ^ Int.toNat 3 % (10 ^ Int.toNat 31 + 33) = M at q1 q2
    have q3 : M < 2 ^ 120 := Int.lt_of_lt_of_le q2 (by decide)
    have p2 := pow3 (x := M + 898809763) (by omega) (by omega)
    refine ⟨((M + 898809763) ^ Int.toNat 3 % (10 ^ Int.toNat 33 + 33) / 10 ^ Int.toNat 7) % n, .lst true [.int 0, .int y, .int (z + 1)], ?_, Int.emod_nonneg _ (by omega), Int.emod_lt_of_pos _ hn, ⟨_, _, _, rfl, hx, hy, hy', by omega, by omega⟩⟩
    simp -implicitDefEqProofs only [c__law_take, b__law_take, eev_cst, eev_var, eev_tupD, eev_lstD, eev_dic0, eev_bin, eev_neg, eev_cmp, eev_isN, eev_chn, eev_notE, eev_andE, eev_orE, eev_ite, eev_sub, eev_slc, eev_rev, eev_call, eev_bi, eev_isi, eev_lc, eev_dc, eev_sortK, eevs_nil, eevs_cons, eevO_no, eevO_so, eevT_tru, eevT_nt, eevT_an, eevT_or, eevL_ex, eevL_rng1, eevL_rng2, eevL_zip, eex_set, eex_par, eex_setI, eex_app, eex_exp, eex_ifs, eex_fr, eex_ret, eex_retN, eex_never, eexs_nil, eexs_cons, vmk_var, vmk_cst, vmk_tupD, vmk_lstD, vmk_dic0, vmk_bin, vmk_neg, vmk_cmp, vmk_isN, vmk_chn, vmk_notE, vmk_andE, vmk_orE, vmk_ite, vmk_sub, vmk_slc, vmk_rev, vmk_call, vmk_bi, vmk_isi, vmk_lc, vmk_dc, vmk_sortK, vbd_ok, vbd_st, vts_ok, vsq_nx, vsq_rt, vnx_ok, voO_some, vb1_bl, vgt_val, vgt_slot, vgs_nil, vgs_cons, vrv_, vso_nil, vso_val, vso_slot, vo1_, vo2_, voN_, voL_, vsu_, vag_nm, vag_tp, vsa_nil, vsa_cons, vwp_nil, vwp_cons, vbk_nil, vbk_cons, var_nil, var_val, var_slot, var_mut, vbo_nil, vbo_false, vbo_true, vpm_nil, vpm_cons, vco_, vevTo_no, vevTo_so, vsp_, vil_, vap_, vou_nil, vou_false, vou_true, vsh_tup, vsh_int, vsh_bl, vsh_non, vsh_str, vsh_frl, vsh_lst, vsh_dic, vsr_tup, vsr_int, vsr_bl, vsr_non, vsr_str, vsr_frl, vsr_lstF, vsr_lstT, vsr_dicF, vsr_dicT, vss_int, vss_nil, vss_cons, vbn_add, vbn_sub, vbn_mul, vbn_pow, vbn_mod, vbn_div, vbn_tup, vbn_lst, vcm_lt, vcm_le, vcm_gt, vcm_ge, vcm_eq, vcm_ne, vcm_eqB, vcm_neB, vcm_in, vcm_notin, vcm_eqT, vcm_neT, vcm_eqL, vcm_neL, vtr_bl, vtr_int, vtr_tup, vtr_lst, vtr_non, vno_, vng_, viN_non, viN_tup, viN_int, viN_bl, viN_str, viN_lst, viN_dic, vii_int, vii_bool, vii_str, vii_tuple, vii_list, vii_dict, vty_non, vty_bl, vty_int, vty_str, vty_tup, vty_lst, vty_frl, vty_dic, vbi_lenT, vbi_lenL, vbi_lenF, vbi_lenD, vbi_abs, vbi_intI, vbi_intB, vbi_max2, vbi_min2, vbi_maxL, vbi_minL, vbi_sum, vbi_all, vbi_any, vbi_listT, vbi_listL, vbi_tupT, vbi_tupL, vbi_sortL, vbi_sortD, vwk_tup, vwk_lst, vr1_, vr2_, vzp_tt, vzp_ll, vsb_tup, vsb_lst, vsb_frl, vsb_dic, vsl_tup, vsl_lst, vrv_lst, vsk_abs, vjn_s, vsg_, vcx_cl, vfi_rt, vfi_nx, List.getElem?_cons_zero, List.getElem?_cons_succ, List.set_cons_zero, List.set_cons_succ, Option.map_some, Option.map_none, Option.bind_some, List.length_cons, List.length_nil, Nat.reduceAdd, Nat.reduceLT, Nat.reduceSub, reduceIte, Bool.not_true, Bool.not_false, Bool.and_true, Bool.true_and, Bool.and_false, Bool.false_and, Bool.or_true, Bool.true_or, Bool.or_false, Bool.false_or, vcx_sg, Bool.false_eq_true, if_false, if_true, List.nil_append, String.reduceBEq, String.reduceEq, i0, i1, i2, j0, j1, j2, hx0, decide_false, if_pos hn, if_pos hm, if_pos hm3, if_pos hd7, if_pos p1, if_pos p2, if_pos p10, if_pos p33, if_pos p7, if_pos hmu, hM, List.all_cons, List.all_nil]
end KLaw
namespace KLaw
open PySem PySem.Spec PyProof.Rows L2 DE

open CL
theorem clause_ok (k : Nat) {c : Nat} {d : D} (h : Bg c d) (hc : c ≤ 2 ^ 28) : ∃ l d', callK tab (k + 2) "_law_clause" [d, .int 5, .int 3] = .ok (T l) [d'] ∧ Cl 5 l ∧ l.length ≤ 5 ∧ Bg (c + 10) d' := by
  obtain ⟨s, ρ1, e1, hs, d1, rfl, b1⟩ := lcL_sub (own := [4]) (tg := .nm 4) (t := evT (cxT tab (k + 1)) (.tru (.cmp .Lt (.call "_law_take" (.cons (.var 0) (.cons (.var 1) .nil)) [0, 1]) (.var 2)))) (el := ev (cxT tab (k + 1)) (.var 4)) D.int D.int (fun n ρ => ∃ d, ρ = [some d, some (.int 5), some (.int 3), none, none] ∧ Bg (c + n) d) 5 [1, 2, 3, 4, 5] [] 0 [some d, some (.int 5), some (.int 3), none, none] (by decide) ⟨d, rfl, h⟩ (by
    rintro x hx n ρ hn ⟨d, rfl, b⟩
    obtain ⟨t, d', e, _, _, b'⟩ := take_ok k b (by omega) (n := 5) (by decide) (by decide)
    refine ⟨_, [some d', some (.int 5), some (.int 3), none, some (.int x)], decide (t < 3), rfl, ?_, fun _ => ⟨[some d', some (.int 5), some (.int 3), none, some (.int x)], ?_, d', rfl, b'⟩, fun _ => ⟨d', rfl, b'⟩⟩
    · simp -implicitDefEqProofs only [eev_cst, eev_var, eev_tupD, eev_lstD, eev_dic0, eev_bin, eev_neg, eev_cmp, eev_isN, eev_chn, eev_notE, eev_andE, eev_orE, eev_ite, eev_sub, eev_slc, eev_rev, eev_call, eev_bi, eev_isi, eev_lc, eev_dc, eev_sortK, eevs_nil, eevs_cons, eevO_no, eevO_so, eevT_tru, eevT_nt, eevT_an, eevT_or, eevL_ex, eevL_rng1, eevL_rng2, eevL_zip, eex_set, eex_par, eex_setI, eex_app, eex_exp, eex_ifs, eex_fr, eex_ret, eex_retN, eex_never, eexs_nil, eexs_cons, vmk_var, vmk_cst, vmk_tupD, vmk_lstD, vmk_dic0, vmk_bin, vmk_neg, vmk_cmp, vmk_isN, vmk_chn, vmk_notE, vmk_andE, vmk_orE, vmk_ite, vmk_sub, vmk_slc, vmk_rev, vmk_call, vmk_bi, vmk_isi, vmk_lc, vmk_dc, vmk_sortK, vbd_ok, vbd_st, vts_ok, vsq_nx, vsq_rt, vnx_ok, voO_some, vb1_bl, vgt_val, vgt_slot, vgs_nil, vgs_cons, vrv_, vso_nil, vso_val, vso_slot, vo1_, vo2_, voN_, voL_, vsu_, vag_nm, vag_tp, vsa_nil, vsa_cons, vwp_nil, vwp_cons, vbk_nil, vbk_cons, var_nil, var_val, var_slot, var_mut, vbo_nil, vbo_false, vbo_true, vpm_nil, vpm_cons, vco_, vevTo_no, vevTo_so, vsp_, vil_, vap_, vou_nil, vou_false, vou_true, vsh_tup, vsh_int, vsh_bl, vsh_non, vsh_str, vsh_frl, vsh_lst, vsh_dic, vsr_tup, vsr_int, vsr_bl, vsr_non, vsr_str, vsr_frl, vsr_lstF, vsr_lstT, vsr_dicF, vsr_dicT, vss_int, vss_nil, vss_cons, vbn_add, vbn_sub, vbn_mul, vbn_pow, vbn_mod, vbn_div, vbn_tup, vbn_lst, vcm_lt, vcm_le, vcm_gt, vcm_ge, vcm_eq, vcm_ne, vcm_eqB, vcm_neB, vcm_in, vcm_notin, vcm_eqT, vcm_neT, vcm_eqL, vcm_neL, vtr_bl, vtr_int, vtr_tup, vtr_lst, vtr_non, vno_, vng_, viN_non, viN_tup, viN_int, viN_bl, viN_str, viN_lst, viN_dic, vii_int, vii_bool, vii_str, vii_tuple, vii_list, vii_dict, vty_non, vty_bl, vty_int, vty_str, vty_tup, vty_lst, vty_frl, vty_dic, vbi_lenT, vbi_lenL, vbi_lenF, vbi_lenD, vbi_abs, vbi_intI, vbi_intB, vbi_max2, vbi_min2, vbi_maxL, vbi_minL, vbi_sum, vbi_all, vbi_any, vbi_listT, vbi_listL, vbi_tupT, vbi_tupL, vbi_sortL, vbi_sortD, vwk_tup, vwk_lst, vr1_, vr2_, vzp_tt, vzp_ll, vsb_tup, vsb_lst, vsb_frl, vsb_dic, vsl_tup, vsl_lst, vrv_lst, vsk_abs, vjn_s, vsg_, vcx_cl, vfi_rt, vfi_nx, List.getElem?_cons_zero, List.getElem?_cons_succ, List.set_cons_zero, List.set_cons_succ, Option.map_some, Option.map_none, Option.bind_some, List.length_cons, List.length_nil, Nat.reduceAdd, Nat.reduceLT, Nat.reduceSub, reduceIte, Bool.not_true, Bool.not_false, Bool.and_true, Bool.true_and, Bool.and_false, Bool.false_and, Bool.or_true, Bool.true_or, Bool.or_false, Bool.false_or, vcx_sg, Bool.false_eq_true, if_false, if_true, List.nil_append, String.reduceBEq, String.reduceEq, t__law_take, g__law_take, e]
    · simp -implicitDefEqProofs only [eev_cst, eev_var, eev_tupD, eev_lstD, eev_dic0, eev_bin, eev_neg, eev_cmp, eev_isN, eev_chn, eev_notE, eev_andE, eev_orE, eev_ite, eev_sub, eev_slc, eev_rev, eev_call, eev_bi, eev_isi, eev_lc, eev_dc, eev_sortK, eevs_nil, eevs_cons, eevO_no, eevO_so, eevT_tru, eevT_nt, eevT_an, eevT_or, eevL_ex, eevL_rng1, eevL_rng2, eevL_zip, eex_set, eex_par, eex_setI, eex_app, eex_exp, eex_ifs, eex_fr, eex_ret, eex_retN, eex_never, eexs_nil, eexs_cons, vmk_var, vmk_cst, vmk_tupD, vmk_lstD, vmk_dic0, vmk_bin, vmk_neg, vmk_cmp, vmk_isN, vmk_chn, vmk_notE, vmk_andE, vmk_orE, vmk_ite, vmk_sub, vmk_slc, vmk_rev, vmk_call, vmk_bi, vmk_isi, vmk_lc, vmk_dc, vmk_sortK, vbd_ok, vbd_st, vts_ok, vsq_nx, vsq_rt, vnx_ok, voO_some, vb1_bl, vgt_val, vgt_slot, vgs_nil, vgs_cons, vrv_, vso_nil, vso_val, vso_slot, vo1_, vo2_, voN_, voL_, vsu_, vag_nm, vag_tp, vsa_nil, vsa_cons, vwp_nil, vwp_cons, vbk_nil, vbk_cons, var_nil, var_val, var_slot, var_mut, vbo_nil, vbo_false, vbo_true, vpm_nil, vpm_cons, vco_, vevTo_no, vevTo_so, vsp_, vil_, vap_, vou_nil, vou_false, vou_true, vsh_tup, vsh_int, vsh_bl, vsh_non, vsh_str, vsh_frl, vsh_lst, vsh_dic, vsr_tup, vsr_int, vsr_bl, vsr_non, vsr_str, vsr_frl, vsr_lstF, vsr_lstT, vsr_dicF, vsr_dicT, vss_int, vss_nil, vss_cons, vbn_add, vbn_sub, vbn_mul, vbn_pow, vbn_mod, vbn_div, vbn_tup, vbn_lst, vcm_lt, vcm_le, vcm_gt, vcm_ge, vcm_eq, vcm_ne, vcm_eqB, vcm_neB, vcm_in, vcm_notin, vcm_eqT, vcm_neT, vcm_eqL, vcm_neL, vtr_bl, vtr_int, vtr_tup, vtr_lst, vtr_non, vno_, vng_, viN_non, viN_tup, viN_int, viN_bl, viN_str, viN_lst, viN_dic, vii_int, vii_bool, vii_str, vii_tuple, vii_list, vii_dict, vty_non, vty_bl, vty_int, vty_str, vty_tup, vty_lst, vty_frl, vty_dic, vbi_lenT, vbi_lenL, vbi_lenF, vbi_lenD, vbi_abs, vbi_intI, vbi_intB, vbi_max2, vbi_min2, vbi_maxL, vbi_minL, vbi_sum, vbi_all, vbi_any, vbi_listT, vbi_listL, vbi_tupT, vbi_tupL, vbi_sortL, vbi_sortD, vwk_tup, vwk_lst, vr1_, vr2_, vzp_tt, vzp_ll, vsb_tup, vsb_lst, vsb_frl, vsb_dic, vsl_tup, vsl_lst, vrv_lst, vsk_abs, vjn_s, vsg_, vcx_cl, vfi_rt, vfi_nx, List.getElem?_cons_zero, List.getElem?_cons_succ, List.set_cons_zero, List.set_cons_succ, Option.map_some, Option.map_none, Option.bind_some, List.length_cons, List.length_nil, Nat.reduceAdd, Nat.reduceLT, Nat.reduceSub, reduceIte, Bool.not_true, Bool.not_false, Bool.and_true, Bool.true_and, Bool.and_false, Bool.false_and, Bool.or_true, Bool.true_or, Bool.or_false, Bool.false_or, vcx_sg, Bool.false_eq_true, if_false, if_true, List.nil_append, String.reduceBEq, String.reduceEq])
  have hsl : s.length ≤ 5 := hs.length_le
  have hsb : ∀ x ∈ s, 1 ≤ x ∧ x ≤ 5 := fun x hx => by
    have := hs.subset hx
    simp at this
    omega
  have hsp : s.Pairwise (· < ·) := List.Pairwise.sublist hs (by decide)
  obtain ⟨l, ρ2, e2, hl, d2, rfl, b2⟩ := lcL_each (own := [4]) (tg := .nm 4) (el := ev (cxT tab (k + 1)) (.bin .Mult (.var 4) (.bin .Sub (.cst (.int 1)) (.bin .Mult (.cst (.int 2)) (.call "_law_take" (.cons (.var 0) (.cons (.cst (.int 2)) .nil)) [0, 1]))))) D.int D.int ab (fun n ρ => ∃ d, ρ = [some d, some (.int 5), some (.int 3), some (.lst false (s.map .int)), none] ∧ Bg (c + 5 + n) d) 5 s [] 0 [some d1, some (.int 5), some (.int 3), some (.lst false (s.map .int)), none] (by omega) ⟨d1, rfl, b1⟩ (by
    rintro x hx n ρ hn ⟨d, rfl, b⟩
    obtain ⟨t, d', e, t0, t1, b'⟩ := take_ok k b (by omega) (n := 2) (by decide) (by decide)
    have hb := hsb x hx
    have m1 : (-(2 ^ 64) < x ∧ x < 2 ^ 64) ∨ (-(2 ^ 64) < 1 - 2 * t ∧ 1 - 2 * t < 2 ^ 64) := .inl (by omega)
    have m2 : (-(2 ^ 64) < (2 : Int) ∧ (2 : Int) < 2 ^ 64) ∨ (-(2 ^ 64) < t ∧ t < 2 ^ 64) := .inl (by decide)
    refine ⟨_, [some d', some (.int 5), some (.int 3), some (.lst false (s.map .int)), some (.int x)], x * (1 - 2 * t), rfl, ?_, ?_, d', rfl, b'⟩
    · simp -implicitDefEqProofs only [eev_cst, eev_var, eev_tupD, eev_lstD, eev_dic0, eev_bin, eev_neg, eev_cmp, eev_isN, eev_chn, eev_notE, eev_andE, eev_orE, eev_ite, eev_sub, eev_slc, eev_rev, eev_call, eev_bi, eev_isi, eev_lc, eev_dc, eev_sortK, eevs_nil, eevs_cons, eevO_no, eevO_so, eevT_tru, eevT_nt, eevT_an, eevT_or, eevL_ex, eevL_rng1, eevL_rng2, eevL_zip, eex_set, eex_par, eex_setI, eex_app, eex_exp, eex_ifs, eex_fr, eex_ret, eex_retN, eex_never, eexs_nil, eexs_cons, vmk_var, vmk_cst, vmk_tupD, vmk_lstD, vmk_dic0, vmk_bin, vmk_neg, vmk_cmp, vmk_isN, vmk_chn, vmk_notE, vmk_andE, vmk_orE, vmk_ite, vmk_sub, vmk_slc, vmk_rev, vmk_call, vmk_bi, vmk_isi, vmk_lc, vmk_dc, vmk_sortK, vbd_ok, vbd_st, vts_ok, vsq_nx, vsq_rt, vnx_ok, voO_some, vb1_bl, vgt_val, vgt_slot, vgs_nil, vgs_cons, vrv_, vso_nil, vso_val, vso_slot, vo1_, vo2_, voN_, voL_, vsu_, vag_nm, vag_tp, vsa_nil, vsa_cons, vwp_nil, vwp_cons, vbk_nil, vbk_cons, var_nil, var_val, var_slot, var_mut, vbo_nil, vbo_false, vbo_true, vpm_nil, vpm_cons, vco_, vevTo_no, vevTo_so, vsp_, vil_, vap_, vou_nil, vou_false, vou_true, vsh_tup, vsh_int, vsh_bl, vsh_non, vsh_str, vsh_frl, vsh_lst, vsh_dic, vsr_tup, vsr_int, vsr_bl, vsr_non, vsr_str, vsr_frl, vsr_lstF, vsr_lstT, vsr_dicF, vsr_dicT, vss_int, vss_nil, vss_cons, vbn_add, vbn_sub, vbn_mul, vbn_pow, vbn_mod, vbn_div, vbn_tup, vbn_lst, vcm_lt, vcm_le, vcm_gt, vcm_ge, vcm_eq, vcm_ne, vcm_eqB, vcm_neB, vcm_in, vcm_notin, vcm_eqT, vcm_neT, vcm_eqL, vcm_neL, vtr_bl, vtr_int, vtr_tup, vtr_lst, vtr_non, vno_, vng_, viN_non, viN_tup, viN_int, viN_bl, viN_str, viN_lst, viN_dic, vii_int, vii_bool, vii_str, vii_tuple, vii_list, vii_dict, vty_non, vty_bl, vty_int, vty_str, vty_tup, vty_lst, vty_frl, vty_dic, vbi_lenT, vbi_lenL, vbi_lenF, vbi_lenD, vbi_abs, vbi_intI, vbi_intB, vbi_max2, vbi_min2, vbi_maxL, vbi_minL, vbi_sum, vbi_all, vbi_any, vbi_listT, vbi_listL, vbi_tupT, vbi_tupL, vbi_sortL, vbi_sortD, vwk_tup, vwk_lst, vr1_, vr2_, vzp_tt, vzp_ll, vsb_tup, vsb_lst, vsb_frl, vsb_dic, vsl_tup, vsl_lst, vrv_lst, vsk_abs, vjn_s, vsg_, vcx_cl, vfi_rt, vfi_nx, List.getElem?_cons_zero, List.getElem?_cons_succ, List.set_cons_zero, List.set_cons_succ, Option.map_some, Option.map_none, Option.bind_some, List.length_cons, List.length_nil, Nat.reduceAdd, Nat.reduceLT, Nat.reduceSub, reduceIte, Bool.not_true, Bool.not_false, Bool.and_true, Bool.true_and, Bool.and_false, Bool.false_and, Bool.or_true, Bool.true_or, Bool.or_false, Bool.false_or, vcx_sg, Bool.false_eq_true, if_false, if_true, List.nil_append, String.reduceBEq, String.reduceEq, t__law_take, g__law_take, e, if_pos m1, if_pos m2]
    · have : t = 0 ∨ t = 1 := by omega
      rcases this with q | q <;> subst q <;> unfold ab <;> split <;> omega)
  refine ⟨l, d2, ?_, ⟨fun x hx => ?_, ?_⟩, ?_, b2.le (by omega)⟩
  · have r : rngD 1 (5 + 1) = some ([1, 2, 3, 4, 5].map D.int) := by kernel_rfl
    rw [List.nil_append] at e1 e2
    simp -implicitDefEqProofs only [c__law_clause, b__law_clause, eev_cst, eev_var, eev_tupD, eev_lstD, eev_dic0, eev_bin, eev_neg, eev_cmp, eev_isN, eev_chn, eev_notE, eev_andE, eev_orE, eev_ite, eev_sub, eev_slc, eev_rev, eev_call, eev_bi, eev_isi, eev_lc, eev_dc, eev_sortK, eevs_nil, eevs_cons, eevO_no, eevO_so, eevT_tru, eevT_nt, eevT_an, eevT_or, eevL_ex, eevL_rng1, eevL_rng2, eevL_zip, eex_set, eex_par, eex_setI, eex_app, eex_exp, eex_ifs, eex_fr, eex_ret, eex_retN, eex_never, eexs_nil, eexs_cons, vmk_var, vmk_cst, vmk_tupD, vmk_lstD, vmk_dic0, vmk_bin, vmk_neg, vmk_cmp, vmk_isN, vmk_chn, vmk_notE, vmk_andE, vmk_orE, vmk_ite, vmk_sub, vmk_slc, vmk_rev, vmk_call, vmk_bi, vmk_isi, vmk_lc, vmk_dc, vmk_sortK, vbd_ok, vbd_st, vts_ok, vsq_nx, vsq_rt, vnx_ok, voO_some, vb1_bl, vgt_val, vgt_slot, vgs_nil, vgs_cons, vrv_, vso_nil, vso_val, vso_slot, vo1_, vo2_, voN_, voL_, vsu_, vag_nm, vag_tp, vsa_nil, vsa_cons, vwp_nil, vwp_cons, vbk_nil, vbk_cons, var_nil, var_val, var_slot, var_mut, vbo_nil, vbo_false, vbo_true, vpm_nil, vpm_cons, vco_, vevTo_no, vevTo_so, vsp_, vil_, vap_, vou_nil, vou_false, vou_true, vsh_tup, vsh_int, vsh_bl, vsh_non, vsh_str, vsh_frl, vsh_lst, vsh_dic, vsr_tup, vsr_int, vsr_bl, vsr_non, vsr_str, vsr_frl, vsr_lstF, vsr_lstT, vsr_dicF, vsr_dicT, vss_int, vss_nil, vss_cons, vbn_add, vbn_sub, vbn_mul, vbn_pow, vbn_mod, vbn_div, vbn_tup, vbn_lst, vcm_lt, vcm_le, vcm_gt, vcm_ge, vcm_eq, vcm_ne, vcm_eqB, vcm_neB, vcm_in, vcm_notin, vcm_eqT, vcm_neT, vcm_eqL, vcm_neL, vtr_bl, vtr_int, vtr_tup, vtr_lst, vtr_non, vno_, vng_, viN_non, viN_tup, viN_int, viN_bl, viN_str, viN_lst, viN_dic, vii_int, vii_bool, vii_str, vii_tuple, vii_list, vii_dict, vty_non, vty_bl, vty_int, vty_str, vty_tup, vty_lst, vty_frl, vty_dic, vbi_lenT, vbi_lenL, vbi_lenF, vbi_lenD, vbi_abs, vbi_intI, vbi_intB, vbi_max2, vbi_min2, vbi_maxL, vbi_minL, vbi_sum, vbi_all, vbi_any, vbi_listT, vbi_listL, vbi_tupT, vbi_tupL, vbi_sortL, vbi_sortD, vwk_tup, vwk_lst, vr1_, vr2_, vzp_tt, vzp_ll, vsb_tup, vsb_lst, vsb_frl, vsb_dic, vsl_tup, vsl_lst, vrv_lst, vsk_abs, vjn_s, vsg_, vcx_cl, vfi_rt, vfi_nx, List.getElem?_cons_zero, List.getElem?_cons_succ, List.set_cons_zero, List.set_cons_succ, Option.map_some, Option.map_none, Option.bind_some, List.length_cons, List.length_nil, Nat.reduceAdd, Nat.reduceLT, Nat.reduceSub, reduceIte, Bool.not_true, Bool.not_false, Bool.and_true, Bool.true_and, Bool.and_false, Bool.false_and, Bool.or_true, Bool.true_or, Bool.or_false, Bool.false_or, vcx_sg, Bool.false_eq_true, if_false, if_true, List.nil_append, String.reduceBEq, String.reduceEq, r, e1, e2, shd_ints]
  · have : ab x ∈ s := by rw [← hl]; exact List.mem_map.mpr ⟨x, hx, rfl⟩
    have := hsb _ this
    omega
  · rw [← hl, List.pairwise_map] at hsp
    exact hsp
  · have := congrArg List.length hl
    rw [List.length_map] at this
    omega
/-! ### what is no clause -/
def L15 (l : List Int) : List D := [.non, .int 7, .str "1", .lst false (l.map .int), .tup (l.map .int ++ [.int 6]), .tup [.int 0], .tup [.int 1, .int 1], .tup [.int 1, .int (-1)], .tup [.int 2, .int 1], .tup [.int (-6)], .tup [.bl true], .tup [.str "1"], .dic false [], .tup (l.map .int ++ [.non]), .tup [.int 2, .int (-1)]]
theorem L15_shd (l : List Int) : ∀ d ∈ L15 l, shd d = true ∧ share d = d := by
  intro d hd
  simp -implicitDefEqProofs only [L15, List.mem_cons, List.not_mem_nil, or_false] at hd
  rcases hd with h | h | h | h | h | h | h | h | h | h | h | h | h | h | h <;> subst h <;> first | exact ⟨rfl, vsr_tup _⟩ | exact ⟨rfl, rfl⟩
theorem L15_no (k : Nat) (l : List Int) : ∀ d ∈ L15 l, callK tab (k + 4) "is_clause" [.int 5, d] = .ok (.bl false) [] := by
  intro d hd
  have ha : ∀ (l : List Int) (e : D), shd e = true → (l.map D.int ++ [e]).all shd = true := fun l e h => by
    rw [List.all_append, shd_ints]; simp [h]
  have hb : ∀ (l : List Int) (e : D), litD 5 e = false → (l.map D.int ++ [e]).all (litD 5) = false := fun l e h => by
    rw [List.all_append]; simp [h]
  have hT : ∀ l : List Int, clB 5 l = false → callK tab (k + 4) "is_clause" [.int 5, T l] = .ok (.bl false) [] := fun l h => by rw [is_clause_T _ _ _ (by decide), h]
  simp -implicitDefEqProofs only [L15, List.mem_cons, List.not_mem_nil, or_false] at hd
  rcases hd with h | h | h | h | h | h | h | h | h | h | h | h | h | h | h <;> subst h
  · exact is_clause_non k _ 5 (by decide) rfl (by decide)
  · exact is_clause_non k _ 5 (by decide) rfl (by decide)
  · exact is_clause_non k _ 5 (by decide) rfl (by decide)
  · exact is_clause_non k _ 5 (by decide) rfl (by simp -implicitDefEqProofs only [vty_lst]; decide)
  · exact is_clause_lit k _ 5 (by decide) (ha l _ rfl) (hb l _ rfl)
  · exact hT [0] rfl
  · exact hT [1, 1] rfl
  · exact hT [1, -1] rfl
  · exact hT [2, 1] rfl
  · exact hT [-6] rfl
  · exact is_clause_lit k _ 5 (by decide) rfl rfl
  · exact is_clause_lit k _ 5 (by decide) rfl rfl
  · exact is_clause_non k _ 5 (by decide) rfl (by decide)
  · exact is_clause_lit k _ 5 (by decide) (ha l _ rfl) (hb l _ rfl)
  · exact hT [2, -1] rfl
theorem L15_sub (l : List Int) {t : Int} (h0 : 0 ≤ t) (h1 : t < 15) : ∃ d ∈ L15 l, ((DE.ixD 15 t).bind fun j => (L15 l)[j]?) = some d := by
  have hl : (L15 l).length = 15 := rfl
  have ht : t.toNat < (L15 l).length := by omega
  refine ⟨(L15 l)[t.toNat], List.getElem_mem ht, ?_⟩
  unfold DE.ixD
  rw [if_pos h0, if_pos (by omega)]
  exact List.getElem?_eq_getElem ht
theorem odd_ok (k : Nat) {c : Nat} {b : D} (h : Bg c b) (hc : c ≤ 2 ^ 28) (l : List Int) (hl : l.length ≤ 16) : ∃ d b', callK tab (k + 2) "_law_odd" [b, T l] = .ok d [b'] ∧ d ∈ L15 l ∧ Bg (c + 1) b' := by
  obtain ⟨t, b', e, t0, t1, hb⟩ := take_ok k h (by omega) (n := 15) (by decide) (by decide)
  obtain ⟨d, hd, es⟩ := L15_sub l t0 t1
  have hs := L15_shd l d hd
  unfold L15 at es
  refine ⟨d, b', ?_, hd, hb⟩
  simp -implicitDefEqProofs (disch := omega) only [c__law_odd, b__law_odd, eev_cst, eev_var, eev_tupD, eev_lstD, eev_dic0, eev_bin, eev_neg, eev_cmp, eev_isN, eev_chn, eev_notE, eev_andE, eev_orE, eev_ite, eev_sub, eev_slc, eev_rev, eev_call, eev_bi, eev_isi, eev_lc, eev_dc, eev_sortK, eevs_nil, eevs_cons, eevO_no, eevO_so, eevT_tru, eevT_nt, eevT_an, eevT_or, eevL_ex, eevL_rng1, eevL_rng2, eevL_zip, eex_set, eex_par, eex_setI, eex_app, eex_exp, eex_ifs, eex_fr, eex_ret, eex_retN, eex_never, eexs_nil, eexs_cons, vmk_var, vmk_cst, vmk_tupD, vmk_lstD, vmk_dic0, vmk_bin, vmk_neg, vmk_cmp, vmk_isN, vmk_chn, vmk_notE, vmk_andE, vmk_orE, vmk_ite, vmk_sub, vmk_slc, vmk_rev, vmk_call, vmk_bi, vmk_isi, vmk_lc, vmk_dc, vmk_sortK, vbd_ok, vbd_st, vts_ok, vsq_nx, vsq_rt, vnx_ok, voO_some, vb1_bl, vgt_val, vgt_slot, vgs_nil, vgs_cons, vrv_, vso_nil, vso_val, vso_slot, vo1_, vo2_, voN_, voL_, vsu_, vag_nm, vag_tp, vsa_nil, vsa_cons, vwp_nil, vwp_cons, vbk_nil, vbk_cons, var_nil, var_val, var_slot, var_mut, vbo_nil, vbo_false, vbo_true, vpm_nil, vpm_cons, vco_, vevTo_no, vevTo_so, vsp_, vil_, vap_, vou_nil, vou_false, vou_true, vsh_tup, vsh_int, vsh_bl, vsh_non, vsh_str, vsh_frl, vsh_lst, vsh_dic, vsr_tup, vsr_int, vsr_bl, vsr_non, vsr_str, vsr_frl, vsr_lstF, vsr_lstT, vsr_dicF, vsr_dicT, vss_int, vss_nil, vss_cons, vbn_add, vbn_sub, vbn_mul, vbn_pow, vbn_mod, vbn_div, vbn_tup, vbn_lst, vcm_lt, vcm_le, vcm_gt, vcm_ge, vcm_eq, vcm_ne, vcm_eqB, vcm_neB, vcm_in, vcm_notin, vcm_eqT, vcm_neT, vcm_eqL, vcm_neL, vtr_bl, vtr_int, vtr_tup, vtr_lst, vtr_non, vno_, vng_, viN_non, viN_tup, viN_int, viN_bl, viN_str, viN_lst, viN_dic, vii_int, vii_bool, vii_str, vii_tuple, vii_list, vii_dict, vty_non, vty_bl, vty_int, vty_str, vty_tup, vty_lst, vty_frl, vty_dic, vbi_lenT, vbi_lenL, vbi_lenF, vbi_lenD, vbi_abs, vbi_intI, vbi_intB, vbi_max2, vbi_min2, vbi_maxL, vbi_minL, vbi_sum, vbi_all, vbi_any, vbi_listT, vbi_listL, vbi_tupT, vbi_tupL, vbi_sortL, vbi_sortD, vwk_tup, vwk_lst, vr1_, vr2_, vzp_tt, vzp_ll, vsb_tup, vsb_lst, vsb_frl, vsb_dic, vsl_tup, vsl_lst, vrv_lst, vsk_abs, vjn_s, vsg_, vcx_cl, vfi_rt, vfi_nx, List.getElem?_cons_zero, List.getElem?_cons_succ, List.set_cons_zero, List.set_cons_succ, Option.map_some, Option.map_none, Option.bind_some, List.length_cons, List.length_nil, Nat.reduceAdd, Nat.reduceLT, Nat.reduceSub, reduceIte, Bool.not_true, Bool.not_false, Bool.and_true, Bool.true_and, Bool.and_false, Bool.false_and, Bool.or_true, Bool.true_or, Bool.or_false, Bool.false_or, vcx_sg, Bool.false_eq_true, if_false, if_true, List.nil_append, String.reduceBEq, String.reduceEq, vsz_, List.length_map, List.length_append, vss_int, vss_nil, shareK, List.all_cons, List.all_nil, t__law_take, g__law_take, e, List.cons_append, es, hs.1]
theorem bag_ok (k : Nat) (ns : List Int) (j : Nat) (hj : j ≤ 2) (hl : ns.length ≤ 63) : ∃ d, callK tab (k + 1) "_law_bag" [.frl ns, .int j] = .ok d [] ∧ Bg 0 d := by
  have p18 : (0 : Int) ≤ 18 ∧ (Builtin.Int.intBits 10 : Int) * 18 ≤ 2 ^ 27 := by decide
  have p26 : (0 : Int) ≤ 26 ∧ (Builtin.Int.intBits 10 : Int) * 26 ≤ 2 ^ 27 := by decide
  have hm : (0 : Int) < 10 ^ Int.toNat 26 + 67 := by decide
  have hm' : (10 : Int) ^ Int.toNat 26 + 67 ≤ 10 ^ 27 := by decide
  have m1 : (-(2 ^ 64) < (j : Int) ∧ (j : Int) < 2 ^ 64) ∨ (-(2 ^ 64) < (8675309 : Int) ∧ (8675309 : Int) < 2 ^ 64) := .inr (by decide)
  have m2 : (-(2 ^ 64) < (ns.length : Int) ∧ (ns.length : Int) < 2 ^ 64) ∨ (-(2 ^ 64) < (49979687 : Int) ∧ (49979687 : Int) < 2 ^ 64) := .inr (by decide)
  have m4 : (-(2 ^ 64) < (j : Int) ∧ (j : Int) < 2 ^ 64) ∨ (-(2 ^ 64) < (104395301 : Int) ∧ (104395301 : Int) < 2 ^ 64) := .inr (by decide)
  have fin : ∀ cell : Int, Bg 0 (.lst true [.int (if (if cell < 0 then -cell else cell) - 10 ^ Int.toNat 18 > 0 then (if cell < 0 then -cell else cell) - 10 ^ Int.toNat 18 else 0), .int ((cell * 141650963 + j * 104395301 + 2719) % (10 ^ Int.toNat 26 + 67)), .int 0]) := fun cell =>
    ⟨_, _, _, rfl, by split <;> omega, Int.emod_nonneg _ (by decide), Int.lt_of_lt_of_le (Int.emod_lt_of_pos _ hm) hm', by omega, by omega⟩
  by_cases h : j < ns.length
  · have h' : decide ((j : Int) < (ns.length : Int)) = true := decide_eq_true (by omega)
    have m3 : (-(2 ^ 64) < ns[j] ∧ ns[j] < 2 ^ 64) ∨ (-(2 ^ 64) < (141650963 : Int) ∧ (141650963 : Int) < 2 ^ 64) := .inr (by decide)
    refine ⟨_, ?_, fin ns[j]⟩
    simp -implicitDefEqProofs (disch := omega) only [c__law_bag, b__law_bag, eev_cst, eev_var, eev_tupD, eev_lstD, eev_dic0, eev_bin, eev_neg, eev_cmp, eev_isN, eev_chn, eev_notE, eev_andE, eev_orE, eev_ite, eev_sub, eev_slc, eev_rev, eev_call, eev_bi, eev_isi, eev_lc, eev_dc, eev_sortK, eevs_nil, eevs_cons, eevO_no, eevO_so, eevT_tru, eevT_nt, eevT_an, eevT_or, eevL_ex, eevL_rng1, eevL_rng2, eevL_zip, eex_set, eex_par, eex_setI, eex_app, eex_exp, eex_ifs, eex_fr, eex_ret, eex_retN, eex_never, eexs_nil, eexs_cons, vmk_var, vmk_cst, vmk_tupD, vmk_lstD, vmk_dic0, vmk_bin, vmk_neg, vmk_cmp, vmk_isN, vmk_chn, vmk_notE, vmk_andE, vmk_orE, vmk_ite, vmk_sub, vmk_slc, vmk_rev, vmk_call, vmk_bi, vmk_isi, vmk_lc, vmk_dc, vmk_sortK, vbd_ok, vbd_st, vts_ok, vsq_nx, vsq_rt, vnx_ok, voO_some, vb1_bl, vgt_val, vgt_slot, vgs_nil, vgs_cons, vrv_, vso_nil, vso_val, vso_slot, vo1_, vo2_, voN_, voL_, vsu_, vag_nm, vag_tp, vsa_nil, vsa_cons, vwp_nil, vwp_cons, vbk_nil, vbk_cons, var_nil, var_val, var_slot, var_mut, vbo_nil, vbo_false, vbo_true, vpm_nil, vpm_cons, vco_, vevTo_no, vevTo_so, vsp_, vil_, vap_, vou_nil, vou_false, vou_true, vsh_tup, vsh_int, vsh_bl, vsh_non, vsh_str, vsh_frl, vsh_lst, vsh_dic, vsr_tup, vsr_int, vsr_bl, vsr_non, vsr_str, vsr_frl, vsr_lstF, vsr_lstT, vsr_dicF, vsr_dicT, vss_int, vss_nil, vss_cons, vbn_add, vbn_sub, vbn_mul, vbn_pow, vbn_mod, vbn_div, vbn_tup, vbn_lst, vcm_lt, vcm_le, vcm_gt, vcm_ge, vcm_eq, vcm_ne, vcm_eqB, vcm_neB, vcm_in, vcm_notin, vcm_eqT, vcm_neT, vcm_eqL, vcm_neL, vtr_bl, vtr_int, vtr_tup, vtr_lst, vtr_non, vno_, vng_, viN_non, viN_tup, viN_int, viN_bl, viN_str, viN_lst, viN_dic, vii_int, vii_bool, vii_str, vii_tuple, vii_list, vii_dict, vty_non, vty_bl, vty_int, vty_str, vty_tup, vty_lst, vty_frl, vty_dic, vbi_lenT, vbi_lenL, vbi_lenF, vbi_lenD, vbi_abs, vbi_intI, vbi_intB, vbi_max2, vbi_min2, vbi_maxL, vbi_minL, vbi_sum, vbi_all, vbi_any, vbi_listT, vbi_listL, vbi_tupT, vbi_tupL, vbi_sortL, vbi_sortD, vwk_tup, vwk_lst, vr1_, vr2_, vzp_tt, vzp_ll, vsb_tup, vsb_lst, vsb_frl, vsb_dic, vsl_tup, vsl_lst, vrv_lst, vsk_abs, vjn_s, vsg_, vcx_cl, vfi_rt, vfi_nx, List.getElem?_cons_zero, List.getElem?_cons_succ, List.set_cons_zero, List.set_cons_succ, Option.map_some, Option.map_none, Option.bind_some, List.length_cons, List.length_nil, Nat.reduceAdd, Nat.reduceLT, Nat.reduceSub, reduceIte, Bool.not_true, Bool.not_false, Bool.and_true, Bool.true_and, Bool.and_false, Bool.false_and, Bool.or_true, Bool.true_or, Bool.or_false, Bool.false_or, vcx_sg, Bool.false_eq_true, if_false, if_true, List.nil_append, String.reduceBEq, String.reduceEq, h', ixD_nat h, List.getElem?_eq_getElem h, if_pos p18, if_pos p26, if_pos hm, if_pos m3, if_pos m4, vsz_]
  · have h' : decide ((j : Int) < (ns.length : Int)) = false := decide_eq_false (by omega)
    have m3 : ∀ z : Int, (-(2 ^ 64) < z ∧ z < 2 ^ 64) ∨ (-(2 ^ 64) < (141650963 : Int) ∧ (141650963 : Int) < 2 ^ 64) := fun z => .inr (by decide)
    refine ⟨_, ?_, fin (j * 8675309 + ns.length * 49979687)⟩
    simp -implicitDefEqProofs (disch := omega) only [c__law_bag, b__law_bag, eev_cst, eev_var, eev_tupD, eev_lstD, eev_dic0, eev_bin, eev_neg, eev_cmp, eev_isN, eev_chn, eev_notE, eev_andE, eev_orE, eev_ite, eev_sub, eev_slc, eev_rev, eev_call, eev_bi, eev_isi, eev_lc, eev_dc, eev_sortK, eevs_nil, eevs_cons, eevO_no, eevO_so, eevT_tru, eevT_nt, eevT_an, eevT_or, eevL_ex, eevL_rng1, eevL_rng2, eevL_zip, eex_set, eex_par, eex_setI, eex_app, eex_exp, eex_ifs, eex_fr, eex_ret, eex_retN, eex_never, eexs_nil, eexs_cons, vmk_var, vmk_cst, vmk_tupD, vmk_lstD, vmk_dic0, vmk_bin, vmk_neg, vmk_cmp, vmk_isN, vmk_chn, vmk_notE, vmk_andE, vmk_orE, vmk_ite, vmk_sub, vmk_slc, vmk_rev, vmk_call, vmk_bi, vmk_isi, vmk_lc, vmk_dc, vmk_sortK, vbd_ok, vbd_st, vts_ok, vsq_nx, vsq_rt, vnx_ok, voO_some, vb1_bl, vgt_val, vgt_slot, vgs_nil, vgs_cons, vrv_, vso_nil, vso_val, vso_slot, vo1_, vo2_, voN_, voL_, vsu_, vag_nm, vag_tp, vsa_nil, vsa_cons, vwp_nil, vwp_cons, vbk_nil, vbk_cons, var_nil, var_val, var_slot, var_mut, vbo_nil, vbo_false, vbo_true, vpm_nil, vpm_cons, vco_, vevTo_no, vevTo_so, vsp_, vil_, vap_, vou_nil, vou_false, vou_true, vsh_tup, vsh_int, vsh_bl, vsh_non, vsh_str, vsh_frl, vsh_lst, vsh_dic, vsr_tup, vsr_int, vsr_bl, vsr_non, vsr_str, vsr_frl, vsr_lstF, vsr_lstT, vsr_dicF, vsr_dicT, vss_int, vss_nil, vss_cons, vbn_add, vbn_sub, vbn_mul, vbn_pow, vbn_mod, vbn_div, vbn_tup, vbn_lst, vcm_lt, vcm_le, vcm_gt, vcm_ge, vcm_eq, vcm_ne, vcm_eqB, vcm_neB, vcm_in, vcm_notin, vcm_eqT, vcm_neT, vcm_eqL, vcm_neL, vtr_bl, vtr_int, vtr_tup, vtr_lst, vtr_non, vno_, vng_, viN_non, viN_tup, viN_int, viN_bl, viN_str, viN_lst, viN_dic, vii_int, vii_bool, vii_str, vii_tuple, vii_list, vii_dict, vty_non, vty_bl, vty_int, vty_str, vty_tup, vty_lst, vty_frl, vty_dic, vbi_lenT, vbi_lenL, vbi_lenF, vbi_lenD, vbi_abs, vbi_intI, vbi_intB, vbi_max2, vbi_min2, vbi_maxL, vbi_minL, vbi_sum, vbi_all, vbi_any, vbi_listT, vbi_listL, vbi_tupT, vbi_tupL, vbi_sortL, vbi_sortD, vwk_tup, vwk_lst, vr1_, vr2_, vzp_tt, vzp_ll, vsb_tup, vsb_lst, vsb_frl, vsb_dic, vsl_tup, vsl_lst, vrv_lst, vsk_abs, vjn_s, vsg_, vcx_cl, vfi_rt, vfi_nx, List.getElem?_cons_zero, List.getElem?_cons_succ, List.set_cons_zero, List.set_cons_succ, Option.map_some, Option.map_none, Option.bind_some, List.length_cons, List.length_nil, Nat.reduceAdd, Nat.reduceLT, Nat.reduceSub, reduceIte, Bool.not_true, Bool.not_false, Bool.and_true, Bool.true_and, Bool.and_false, Bool.false_and, Bool.or_true, Bool.true_or, Bool.or_false, Bool.false_or, vcx_sg, Bool.false_eq_true, if_false, if_true, List.nil_append, String.reduceBEq, String.reduceEq, h', if_pos p18, if_pos p26, if_pos hm, if_pos (m3 _), if_pos m1, if_pos m2, if_pos m4, vsz_]
end KLaw
namespace KLaw
open PySem PySem.Spec PyProof.Rows L2 DE

open CL
theorem made_len {a b c : List Int} (h : made a b = some c) : c.length ≤ a.length + b.length := by
  unfold made at h
  split at h
  · rename_i t ht
    cases h
    have h1 : ∀ l : List Int, (isort l).length = l.length := by
      have hi : ∀ (x : Int) (l : List Int), (ins x l).length = l.length + 1 := fun x l => by
        induction l with
        | nil => rfl
        | cons y r ih => unfold ins; split <;> simp [ih]
      intro l
      induction l with
      | nil => rfl
      | cons y r ih => simp [isort, hi, ih]
    unfold res
    rw [List.length_map, h1, List.length_map]
    have h2 := fold_length (oth a b t) []
    have h3 : (oth a b t).length ≤ (a ++ b).length := List.length_filter_le _ _
    rw [List.length_append] at h3
    simp -implicitDefEqProofs only [List.length_nil] at h2
    unfold dicI
    omega
  · cases h
theorem isortBy_len (f : Int → Int) (l : List Int) : (isortBy f l).length = l.length := by
  have hi : ∀ (x : Int) (l : List Int), (insBy f x l).length = l.length + 1 := fun x l => by
    induction l with
    | nil => rfl
    | cons y r ih => unfold insBy; split <;> simp [ih]
  induction l with
  | nil => rfl
  | cons y r ih => simp [isortBy, hi, ih]
structure OKp (a b : List Int) : Prop where
  ca : Cl 5 a
  cb : Cl 5 b
  la : a.length ≤ 5
  lb : b.length ≤ 6
theorem OKp.sm {a b : List Int} (h : OKp a b) (k : Nat) : Sm (k + 2) (RD a b) := Sm_RD k a b fun c e => by
  have := made_len e; have := h.la; have := h.lb; omega
theorem OKp.turn {a b : List Int} (h : OKp a b) : RD b a = RD a b := by unfold RD; rw [made_turn h.ca.asc h.cb.asc]
theorem OKp.r1 {a b : List Int} (h : OKp a b) (k : Nat) : callK tab (k + 5) "resolved" [T a, T b] = .ok (RD a b) [] :=
  resolved_ok k h.ca h.cb (by have := h.la; omega) (by have := h.lb; omega)
theorem OKp.r2 {a b : List Int} (h : OKp a b) (k : Nat) : callK tab (k + 5) "resolved" [T b, T a] = .ok (RD a b) [] :=
  (resolved_ok k h.cb h.ca (by have := h.lb; omega) (by have := h.la; omega)).trans (by rw [h.turn])
section
variable (S A K t o5 o6 o7 o8 o9 : Option D)
theorem st0 {c : Nat} {bag : D} (h : Bg c bag) (hc : c ≤ 2 ^ 20) : ∃ a b bag', ex (cxT tab 19) q_law_1_1_0 [S, A, K, some bag, t, o5, o6, o7, o8, o9, none] = .nx [S, A, K, some bag', t, some (T a), some (T b), o7, o8, o9, none] ∧ OKp a b ∧ b.length ≤ 5 ∧ Bg (c + 20) bag' := by
  obtain ⟨a, b1, e1, ca, la, h1⟩ := clause_ok 17 h (by omega)
  obtain ⟨b, b2, e2, cb, lb, h2⟩ := clause_ok 17 h1 (by omega)
  refine ⟨a, b, b2, ?_, ⟨ca, cb, la, by omega⟩, lb, h2⟩
  simp -implicitDefEqProofs (disch := omega) only [q_law_1_1_0, eev_cst, eev_var, eev_tupD, eev_lstD, eev_dic0, eev_bin, eev_neg, eev_cmp, eev_isN, eev_chn, eev_notE, eev_andE, eev_orE, eev_ite, eev_sub, eev_slc, eev_rev, eev_call, eev_bi, eev_isi, eev_lc, eev_dc, eev_sortK, eevs_nil, eevs_cons, eevO_no, eevO_so, eevT_tru, eevT_nt, eevT_an, eevT_or, eevL_ex, eevL_rng1, eevL_rng2, eevL_zip, eex_set, eex_par, eex_setI, eex_app, eex_exp, eex_ifs, eex_fr, eex_ret, eex_retN, eex_never, eexs_nil, eexs_cons, vmk_var, vmk_cst, vmk_tupD, vmk_lstD, vmk_dic0, vmk_bin, vmk_neg, vmk_cmp, vmk_isN, vmk_chn, vmk_notE, vmk_andE, vmk_orE, vmk_ite, vmk_sub, vmk_slc, vmk_rev, vmk_call, vmk_bi, vmk_isi, vmk_lc, vmk_dc, vmk_sortK, vbd_ok, vbd_st, vts_ok, vsq_nx, vsq_rt, vnx_ok, voO_some, vb1_bl, vgt_val, vgt_slot, vgs_nil, vgs_cons, vrv_, vso_nil, vso_val, vso_slot, vo1_, vo2_, voN_, voL_, vsu_, vag_nm, vag_tp, vsa_nil, vsa_cons, vwp_nil, vwp_cons, vbk_nil, vbk_cons, var_nil, var_val, var_slot, var_mut, vbo_nil, vbo_false, vbo_true, vpm_nil, vpm_cons, vco_, vevTo_no, vevTo_so, vsp_, vil_, vap_, vou_nil, vou_false, vou_true, vsh_tup, vsh_int, vsh_bl, vsh_non, vsh_str, vsh_frl, vsh_lst, vsh_dic, vsr_tup, vsr_int, vsr_bl, vsr_non, vsr_str, vsr_frl, vsr_lstF, vsr_lstT, vsr_dicF, vsr_dicT, vss_int, vss_nil, vss_cons, vbn_add, vbn_sub, vbn_mul, vbn_pow, vbn_mod, vbn_div, vbn_tup, vbn_lst, vcm_lt, vcm_le, vcm_gt, vcm_ge, vcm_eq, vcm_ne, vcm_eqB, vcm_neB, vcm_in, vcm_notin, vcm_eqT, vcm_neT, vcm_eqL, vcm_neL, vtr_bl, vtr_int, vtr_tup, vtr_lst, vtr_non, vno_, vng_, viN_non, viN_tup, viN_int, viN_bl, viN_str, viN_lst, viN_dic, vii_int, vii_bool, vii_str, vii_tuple, vii_list, vii_dict, vty_non, vty_bl, vty_int, vty_str, vty_tup, vty_lst, vty_frl, vty_dic, vbi_lenT, vbi_lenL, vbi_lenF, vbi_lenD, vbi_abs, vbi_intI, vbi_intB, vbi_max2, vbi_min2, vbi_maxL, vbi_minL, vbi_sum, vbi_all, vbi_any, vbi_listT, vbi_listL, vbi_tupT, vbi_tupL, vbi_sortL, vbi_sortD, vwk_tup, vwk_lst, vr1_, vr2_, vzp_tt, vzp_ll, vsb_tup, vsb_lst, vsb_frl, vsb_dic, vsl_tup, vsl_lst, vrv_lst, vsk_abs, vjn_s, vsg_, vcx_cl, vfi_rt, vfi_nx, List.getElem?_cons_zero, List.getElem?_cons_succ, List.set_cons_zero, List.set_cons_succ, Option.map_some, Option.map_none, Option.bind_some, List.length_cons, List.length_nil, Nat.reduceAdd, Nat.reduceLT, Nat.reduceSub, reduceIte, Bool.not_true, Bool.not_false, Bool.and_true, Bool.true_and, Bool.and_false, Bool.false_and, Bool.or_true, Bool.true_or, Bool.or_false, Bool.false_or, vcx_sg, Bool.false_eq_true, if_false, if_true, List.nil_append, String.reduceBEq, String.reduceEq, t__law_clause, g__law_clause, e1, e2, vsz_]
theorem okT (l : List Int) : okEq 60 (.tup (l.map .int)) = true := by rw [okEq, List.all_map]; simp [okEq]
theorem okT0 : okEq 60 (.tup []) = true := rfl
theorem eqT_nil (l : List Int) : eqD (.tup (l.map .int)) (.tup []) = l.isEmpty := by cases l <;> rfl
theorem st1 (bagO : Option D) (n : Nat) {a b : List Int} (h : OKp a b) (h5 : b.length ≤ 5) : ∃ b' o9', ex (cxT tab 19) q_law_1_1_1 [S, A, K, bagO, some (.int n), some (T a), some (T b), o7, o8, o9, none] = .nx [S, A, K, bagO, some (.int n), some (T a), some (T b'), o7, o8, o9', none] ∧ OKp a b' := by
  by_cases hn : (7 : Int) < n
  · cases a with
    | nil =>
      refine ⟨b, o9, ?_, h⟩
      have e0 := eqT_nil []
      have e1 := okT []
      simp -implicitDefEqProofs only [List.map_nil] at e0 e1
      simp -implicitDefEqProofs (disch := omega) only [q_law_1_1_1, eev_cst, eev_var, eev_tupD, eev_lstD, eev_dic0, eev_bin, eev_neg, eev_cmp, eev_isN, eev_chn, eev_notE, eev_andE, eev_orE, eev_ite, eev_sub, eev_slc, eev_rev, eev_call, eev_bi, eev_isi, eev_lc, eev_dc, eev_sortK, eevs_nil, eevs_cons, eevO_no, eevO_so, eevT_tru, eevT_nt, eevT_an, eevT_or, eevL_ex, eevL_rng1, eevL_rng2, eevL_zip, eex_set, eex_par, eex_setI, eex_app, eex_exp, eex_ifs, eex_fr, eex_ret, eex_retN, eex_never, eexs_nil, eexs_cons, vmk_var, vmk_cst, vmk_tupD, vmk_lstD, vmk_dic0, vmk_bin, vmk_neg, vmk_cmp, vmk_isN, vmk_chn, vmk_notE, vmk_andE, vmk_orE, vmk_ite, vmk_sub, vmk_slc, vmk_rev, vmk_call, vmk_bi, vmk_isi, vmk_lc, vmk_dc, vmk_sortK, vbd_ok, vbd_st, vts_ok, vsq_nx, vsq_rt, vnx_ok, voO_some, vb1_bl, vgt_val, vgt_slot, vgs_nil, vgs_cons, vrv_, vso_nil, vso_val, vso_slot, vo1_, vo2_, voN_, voL_, vsu_, vag_nm, vag_tp, vsa_nil, vsa_cons, vwp_nil, vwp_cons, vbk_nil, vbk_cons, var_nil, var_val, var_slot, var_mut, vbo_nil, vbo_false, vbo_true, vpm_nil, vpm_cons, vco_, vevTo_no, vevTo_so, vsp_, vil_, vap_, vou_nil, vou_false, vou_true, vsh_tup, vsh_int, vsh_bl, vsh_non, vsh_str, vsh_frl, vsh_lst, vsh_dic, vsr_tup, vsr_int, vsr_bl, vsr_non, vsr_str, vsr_frl, vsr_lstF, vsr_lstT, vsr_dicF, vsr_dicT, vss_int, vss_nil, vss_cons, vbn_add, vbn_sub, vbn_mul, vbn_pow, vbn_mod, vbn_div, vbn_tup, vbn_lst, vcm_lt, vcm_le, vcm_gt, vcm_ge, vcm_eq, vcm_ne, vcm_eqB, vcm_neB, vcm_in, vcm_notin, vcm_eqT, vcm_neT, vcm_eqL, vcm_neL, vtr_bl, vtr_int, vtr_tup, vtr_lst, vtr_non, vno_, vng_, viN_non, viN_tup, viN_int, viN_bl, viN_str, viN_lst, viN_dic, vii_int, vii_bool, vii_str, vii_tuple, vii_list, vii_dict, vty_non, vty_bl, vty_int, vty_str, vty_tup, vty_lst, vty_frl, vty_dic, vbi_lenT, vbi_lenL, vbi_lenF, vbi_lenD, vbi_abs, vbi_intI, vbi_intB, vbi_max2, vbi_min2, vbi_maxL, vbi_minL, vbi_sum, vbi_all, vbi_any, vbi_listT, vbi_listL, vbi_tupT, vbi_tupL, vbi_sortL, vbi_sortD, vwk_tup, vwk_lst, vr1_, vr2_, vzp_tt, vzp_ll, vsb_tup, vsb_lst, vsb_frl, vsb_dic, vsl_tup, vsl_lst, vrv_lst, vsk_abs, vjn_s, vsg_, vcx_cl, vfi_rt, vfi_nx, List.getElem?_cons_zero, List.getElem?_cons_succ, List.set_cons_zero, List.set_cons_succ, Option.map_some, Option.map_none, Option.bind_some, List.length_cons, List.length_nil, Nat.reduceAdd, Nat.reduceLT, Nat.reduceSub, reduceIte, Bool.not_true, Bool.not_false, Bool.and_true, Bool.true_and, Bool.and_false, Bool.false_and, Bool.or_true, Bool.true_or, Bool.or_false, Bool.false_or, vcx_sg, Bool.false_eq_true, if_false, if_true, List.nil_append, String.reduceBEq, String.reduceEq, hn, decide_true, vcm_neT, e1, e0, List.isEmpty_nil, vsz_, List.map_nil]
    | cons x r =>
      have e0 := eqT_nil (x :: r)
      have e1 := okT (x :: r)
      have i0 : DE.ixD ((r.map D.int).length + 1) 0 = some 0 := by unfold DE.ixD; rw [if_pos (by omega), if_pos (by omega)]; rfl
      have i1 : DE.ixD (r.length + 1) 0 = some 0 := by unfold DE.ixD; rw [if_pos (by omega), if_pos (by omega)]; rfl
      have e0' := e0
      have e1' := e1
      simp -implicitDefEqProofs only [List.map_cons] at e0' e1'
      have el := lcL_fil (own := [10]) (tg := .nm 10) (t := evT (cxT tab 19) (.tru (.cmp .NotEq (.bi "abs" (.cons (.var 10) .nil)) (.bi "abs" (.cons (.sub (.var 5) (.cst (.int 0))) .nil))))) (el := ev (cxT tab 19) (.var 10)) D.int D.int (fun y => !decide (ab y = ab x)) (ρ := [S, A, K, bagO, some (.int n), some (T (x :: r)), some (T b), o7, o8, o9, none]) b [] (fun y hy => by
        refine ⟨_, [S, A, K, bagO, some (.int n), some (T (x :: r)), some (T b), o7, o8, o9, some (.int y)], rfl, ?_, fun _ => ⟨[S, A, K, bagO, some (.int n), some (T (x :: r)), some (T b), o7, o8, o9, some (.int y)], ?_, rfl⟩, fun _ => rfl⟩
        · simp -implicitDefEqProofs only [eev_cst, eev_var, eev_tupD, eev_lstD, eev_dic0, eev_bin, eev_neg, eev_cmp, eev_isN, eev_chn, eev_notE, eev_andE, eev_orE, eev_ite, eev_sub, eev_slc, eev_rev, eev_call, eev_bi, eev_isi, eev_lc, eev_dc, eev_sortK, eevs_nil, eevs_cons, eevO_no, eevO_so, eevT_tru, eevT_nt, eevT_an, eevT_or, eevL_ex, eevL_rng1, eevL_rng2, eevL_zip, eex_set, eex_par, eex_setI, eex_app, eex_exp, eex_ifs, eex_fr, eex_ret, eex_retN, eex_never, eexs_nil, eexs_cons, vmk_var, vmk_cst, vmk_tupD, vmk_lstD, vmk_dic0, vmk_bin, vmk_neg, vmk_cmp, vmk_isN, vmk_chn, vmk_notE, vmk_andE, vmk_orE, vmk_ite, vmk_sub, vmk_slc, vmk_rev, vmk_call, vmk_bi, vmk_isi, vmk_lc, vmk_dc, vmk_sortK, vbd_ok, vbd_st, vts_ok, vsq_nx, vsq_rt, vnx_ok, voO_some, vb1_bl, vgt_val, vgt_slot, vgs_nil, vgs_cons, vrv_, vso_nil, vso_val, vso_slot, vo1_, vo2_, voN_, voL_, vsu_, vag_nm, vag_tp, vsa_nil, vsa_cons, vwp_nil, vwp_cons, vbk_nil, vbk_cons, var_nil, var_val, var_slot, var_mut, vbo_nil, vbo_false, vbo_true, vpm_nil, vpm_cons, vco_, vevTo_no, vevTo_so, vsp_, vil_, vap_, vou_nil, vou_false, vou_true, vsh_tup, vsh_int, vsh_bl, vsh_non, vsh_str, vsh_frl, vsh_lst, vsh_dic, vsr_tup, vsr_int, vsr_bl, vsr_non, vsr_str, vsr_frl, vsr_lstF, vsr_lstT, vsr_dicF, vsr_dicT, vss_int, vss_nil, vss_cons, vbn_add, vbn_sub, vbn_mul, vbn_pow, vbn_mod, vbn_div, vbn_tup, vbn_lst, vcm_lt, vcm_le, vcm_gt, vcm_ge, vcm_eq, vcm_ne, vcm_eqB, vcm_neB, vcm_in, vcm_notin, vcm_eqT, vcm_neT, vcm_eqL, vcm_neL, vtr_bl, vtr_int, vtr_tup, vtr_lst, vtr_non, vno_, vng_, viN_non, viN_tup, viN_int, viN_bl, viN_str, viN_lst, viN_dic, vii_int, vii_bool, vii_str, vii_tuple, vii_list, vii_dict, vty_non, vty_bl, vty_int, vty_str, vty_tup, vty_lst, vty_frl, vty_dic, vbi_lenT, vbi_lenL, vbi_lenF, vbi_lenD, vbi_abs, vbi_intI, vbi_intB, vbi_max2, vbi_min2, vbi_maxL, vbi_minL, vbi_sum, vbi_all, vbi_any, vbi_listT, vbi_listL, vbi_tupT, vbi_tupL, vbi_sortL, vbi_sortD, vwk_tup, vwk_lst, vr1_, vr2_, vzp_tt, vzp_ll, vsb_tup, vsb_lst, vsb_frl, vsb_dic, vsl_tup, vsl_lst, vrv_lst, vsk_abs, vjn_s, vsg_, vcx_cl, vfi_rt, vfi_nx, List.getElem?_cons_zero, List.getElem?_cons_succ, List.set_cons_zero, List.set_cons_succ, Option.map_some, Option.map_none, Option.bind_some, List.length_cons, List.length_nil, Nat.reduceAdd, Nat.reduceLT, Nat.reduceSub, reduceIte, Bool.not_true, Bool.not_false, Bool.and_true, Bool.true_and, Bool.and_false, Bool.false_and, Bool.or_true, Bool.true_or, Bool.or_false, Bool.false_or, vcx_sg, Bool.false_eq_true, if_false, if_true, List.nil_append, String.reduceBEq, String.reduceEq, i0, i1, List.length_map, List.map_cons]; rfl
        · simp -implicitDefEqProofs only [eev_cst, eev_var, eev_tupD, eev_lstD, eev_dic0, eev_bin, eev_neg, eev_cmp, eev_isN, eev_chn, eev_notE, eev_andE, eev_orE, eev_ite, eev_sub, eev_slc, eev_rev, eev_call, eev_bi, eev_isi, eev_lc, eev_dc, eev_sortK, eevs_nil, eevs_cons, eevO_no, eevO_so, eevT_tru, eevT_nt, eevT_an, eevT_or, eevL_ex, eevL_rng1, eevL_rng2, eevL_zip, eex_set, eex_par, eex_setI, eex_app, eex_exp, eex_ifs, eex_fr, eex_ret, eex_retN, eex_never, eexs_nil, eexs_cons, vmk_var, vmk_cst, vmk_tupD, vmk_lstD, vmk_dic0, vmk_bin, vmk_neg, vmk_cmp, vmk_isN, vmk_chn, vmk_notE, vmk_andE, vmk_orE, vmk_ite, vmk_sub, vmk_slc, vmk_rev, vmk_call, vmk_bi, vmk_isi, vmk_lc, vmk_dc, vmk_sortK, vbd_ok, vbd_st, vts_ok, vsq_nx, vsq_rt, vnx_ok, voO_some, vb1_bl, vgt_val, vgt_slot, vgs_nil, vgs_cons, vrv_, vso_nil, vso_val, vso_slot, vo1_, vo2_, voN_, voL_, vsu_, vag_nm, vag_tp, vsa_nil, vsa_cons, vwp_nil, vwp_cons, vbk_nil, vbk_cons, var_nil, var_val, var_slot, var_mut, vbo_nil, vbo_false, vbo_true, vpm_nil, vpm_cons, vco_, vevTo_no, vevTo_so, vsp_, vil_, vap_, vou_nil, vou_false, vou_true, vsh_tup, vsh_int, vsh_bl, vsh_non, vsh_str, vsh_frl, vsh_lst, vsh_dic, vsr_tup, vsr_int, vsr_bl, vsr_non, vsr_str, vsr_frl, vsr_lstF, vsr_lstT, vsr_dicF, vsr_dicT, vss_int, vss_nil, vss_cons, vbn_add, vbn_sub, vbn_mul, vbn_pow, vbn_mod, vbn_div, vbn_tup, vbn_lst, vcm_lt, vcm_le, vcm_gt, vcm_ge, vcm_eq, vcm_ne, vcm_eqB, vcm_neB, vcm_in, vcm_notin, vcm_eqT, vcm_neT, vcm_eqL, vcm_neL, vtr_bl, vtr_int, vtr_tup, vtr_lst, vtr_non, vno_, vng_, viN_non, viN_tup, viN_int, viN_bl, viN_str, viN_lst, viN_dic, vii_int, vii_bool, vii_str, vii_tuple, vii_list, vii_dict, vty_non, vty_bl, vty_int, vty_str, vty_tup, vty_lst, vty_frl, vty_dic, vbi_lenT, vbi_lenL, vbi_lenF, vbi_lenD, vbi_abs, vbi_intI, vbi_intB, vbi_max2, vbi_min2, vbi_maxL, vbi_minL, vbi_sum, vbi_all, vbi_any, vbi_listT, vbi_listL, vbi_tupT, vbi_tupL, vbi_sortL, vbi_sortD, vwk_tup, vwk_lst, vr1_, vr2_, vzp_tt, vzp_ll, vsb_tup, vsb_lst, vsb_frl, vsb_dic, vsl_tup, vsl_lst, vrv_lst, vsk_abs, vjn_s, vsg_, vcx_cl, vfi_rt, vfi_nx, List.getElem?_cons_zero, List.getElem?_cons_succ, List.set_cons_zero, List.set_cons_succ, Option.map_some, Option.map_none, Option.bind_some, List.length_cons, List.length_nil, Nat.reduceAdd, Nat.reduceLT, Nat.reduceSub, reduceIte, Bool.not_true, Bool.not_false, Bool.and_true, Bool.true_and, Bool.and_false, Bool.false_and, Bool.or_true, Bool.true_or, Bool.or_false, Bool.false_or, vcx_sg, Bool.false_eq_true, if_false, if_true, List.nil_append, String.reduceBEq, String.reduceEq])
      rw [List.nil_append] at el
      have hx := h.ca.lit x (by simp)
      have hf : (b.filter fun y => !decide (ab y = ab x)).length ≤ b.length := List.length_filter_le _ _
      have hlb := Cl.sortBy h.cb (x := 0 - x) (by rw [Int.zero_sub, ab_neg]; exact hx)
      have hax : ab (0 - x) = ab x := by rw [Int.zero_sub, ab_neg]
      rw [hax] at hlb
      refine ⟨isortBy ab ((0 - x) :: b.filter fun y => !decide (ab y = ab x)), some (.lst true ((b.filter fun y => !decide (ab y = ab x)).map .int)), ?_, ⟨h.ca, hlb, h.la, ?_⟩⟩
      · have hs := shd_ints (isortBy ab ((0 - x) :: b.filter fun y => !decide (ab y = ab x)))
        have hi := DE.ints_map ((0 - x) :: b.filter fun y => !decide (ab y = ab x))
        have hsf := shd_ints (b.filter fun y => !decide (ab y = ab x))
        have hsz : (b.filter fun y => !decide (ab y = ab x)).length ≤ 6 := by have := h.lb; omega
        rw [List.map_cons] at hi
        have hab : (fun i : Int => if i < 0 then -i else i) = ab := rfl
        simp -implicitDefEqProofs (disch := omega) only [q_law_1_1_1, eev_cst, eev_var, eev_tupD, eev_lstD, eev_dic0, eev_bin, eev_neg, eev_cmp, eev_isN, eev_chn, eev_notE, eev_andE, eev_orE, eev_ite, eev_sub, eev_slc, eev_rev, eev_call, eev_bi, eev_isi, eev_lc, eev_dc, eev_sortK, eevs_nil, eevs_cons, eevO_no, eevO_so, eevT_tru, eevT_nt, eevT_an, eevT_or, eevL_ex, eevL_rng1, eevL_rng2, eevL_zip, eex_set, eex_par, eex_setI, eex_app, eex_exp, eex_ifs, eex_fr, eex_ret, eex_retN, eex_never, eexs_nil, eexs_cons, vmk_var, vmk_cst, vmk_tupD, vmk_lstD, vmk_dic0, vmk_bin, vmk_neg, vmk_cmp, vmk_isN, vmk_chn, vmk_notE, vmk_andE, vmk_orE, vmk_ite, vmk_sub, vmk_slc, vmk_rev, vmk_call, vmk_bi, vmk_isi, vmk_lc, vmk_dc, vmk_sortK, vbd_ok, vbd_st, vts_ok, vsq_nx, vsq_rt, vnx_ok, voO_some, vb1_bl, vgt_val, vgt_slot, vgs_nil, vgs_cons, vrv_, vso_nil, vso_val, vso_slot, vo1_, vo2_, voN_, voL_, vsu_, vag_nm, vag_tp, vsa_nil, vsa_cons, vwp_nil, vwp_cons, vbk_nil, vbk_cons, var_nil, var_val, var_slot, var_mut, vbo_nil, vbo_false, vbo_true, vpm_nil, vpm_cons, vco_, vevTo_no, vevTo_so, vsp_, vil_, vap_, vou_nil, vou_false, vou_true, vsh_tup, vsh_int, vsh_bl, vsh_non, vsh_str, vsh_frl, vsh_lst, vsh_dic, vsr_tup, vsr_int, vsr_bl, vsr_non, vsr_str, vsr_frl, vsr_lstF, vsr_lstT, vsr_dicF, vsr_dicT, vss_int, vss_nil, vss_cons, vbn_add, vbn_sub, vbn_mul, vbn_pow, vbn_mod, vbn_div, vbn_tup, vbn_lst, vcm_lt, vcm_le, vcm_gt, vcm_ge, vcm_eq, vcm_ne, vcm_eqB, vcm_neB, vcm_in, vcm_notin, vcm_eqT, vcm_neT, vcm_eqL, vcm_neL, vtr_bl, vtr_int, vtr_tup, vtr_lst, vtr_non, vno_, vng_, viN_non, viN_tup, viN_int, viN_bl, viN_str, viN_lst, viN_dic, vii_int, vii_bool, vii_str, vii_tuple, vii_list, vii_dict, vty_non, vty_bl, vty_int, vty_str, vty_tup, vty_lst, vty_frl, vty_dic, vbi_lenT, vbi_lenL, vbi_lenF, vbi_lenD, vbi_abs, vbi_intI, vbi_intB, vbi_max2, vbi_min2, vbi_maxL, vbi_minL, vbi_sum, vbi_all, vbi_any, vbi_listT, vbi_listL, vbi_tupT, vbi_tupL, vbi_sortL, vbi_sortD, vwk_tup, vwk_lst, vr1_, vr2_, vzp_tt, vzp_ll, vsb_tup, vsb_lst, vsb_frl, vsb_dic, vsl_tup, vsl_lst, vrv_lst, vsk_abs, vjn_s, vsg_, vcx_cl, vfi_rt, vfi_nx, List.getElem?_cons_zero, List.getElem?_cons_succ, List.set_cons_zero, List.set_cons_succ, Option.map_some, Option.map_none, Option.bind_some, List.length_cons, List.length_nil, Nat.reduceAdd, Nat.reduceLT, Nat.reduceSub, reduceIte, Bool.not_true, Bool.not_false, Bool.and_true, Bool.true_and, Bool.and_false, Bool.false_and, Bool.or_true, Bool.true_or, Bool.or_false, Bool.false_or, vcx_sg, Bool.false_eq_true, if_false, if_true, List.nil_append, String.reduceBEq, String.reduceEq, hn, decide_true, e0', e1', okT0, List.isEmpty_cons, vsz_, List.map_cons, i0, i1, List.length_map, el, hsf, List.all_cons, List.all_nil, List.cons_append, hi, hab, hs]
      · rw [isortBy_len, List.length_cons]; omega
  · refine ⟨b, o9, ?_, h⟩
    simp -implicitDefEqProofs only [q_law_1_1_1, eev_cst, eev_var, eev_tupD, eev_lstD, eev_dic0, eev_bin, eev_neg, eev_cmp, eev_isN, eev_chn, eev_notE, eev_andE, eev_orE, eev_ite, eev_sub, eev_slc, eev_rev, eev_call, eev_bi, eev_isi, eev_lc, eev_dc, eev_sortK, eevs_nil, eevs_cons, eevO_no, eevO_so, eevT_tru, eevT_nt, eevT_an, eevT_or, eevL_ex, eevL_rng1, eevL_rng2, eevL_zip, eex_set, eex_par, eex_setI, eex_app, eex_exp, eex_ifs, eex_fr, eex_ret, eex_retN, eex_never, eexs_nil, eexs_cons, vmk_var, vmk_cst, vmk_tupD, vmk_lstD, vmk_dic0, vmk_bin, vmk_neg, vmk_cmp, vmk_isN, vmk_chn, vmk_notE, vmk_andE, vmk_orE, vmk_ite, vmk_sub, vmk_slc, vmk_rev, vmk_call, vmk_bi, vmk_isi, vmk_lc, vmk_dc, vmk_sortK, vbd_ok, vbd_st, vts_ok, vsq_nx, vsq_rt, vnx_ok, voO_some, vb1_bl, vgt_val, vgt_slot, vgs_nil, vgs_cons, vrv_, vso_nil, vso_val, vso_slot, vo1_, vo2_, voN_, voL_, vsu_, vag_nm, vag_tp, vsa_nil, vsa_cons, vwp_nil, vwp_cons, vbk_nil, vbk_cons, var_nil, var_val, var_slot, var_mut, vbo_nil, vbo_false, vbo_true, vpm_nil, vpm_cons, vco_, vevTo_no, vevTo_so, vsp_, vil_, vap_, vou_nil, vou_false, vou_true, vsh_tup, vsh_int, vsh_bl, vsh_non, vsh_str, vsh_frl, vsh_lst, vsh_dic, vsr_tup, vsr_int, vsr_bl, vsr_non, vsr_str, vsr_frl, vsr_lstF, vsr_lstT, vsr_dicF, vsr_dicT, vss_int, vss_nil, vss_cons, vbn_add, vbn_sub, vbn_mul, vbn_pow, vbn_mod, vbn_div, vbn_tup, vbn_lst, vcm_lt, vcm_le, vcm_gt, vcm_ge, vcm_eq, vcm_ne, vcm_eqB, vcm_neB, vcm_in, vcm_notin, vcm_eqT, vcm_neT, vcm_eqL, vcm_neL, vtr_bl, vtr_int, vtr_tup, vtr_lst, vtr_non, vno_, vng_, viN_non, viN_tup, viN_int, viN_bl, viN_str, viN_lst, viN_dic, vii_int, vii_bool, vii_str, vii_tuple, vii_list, vii_dict, vty_non, vty_bl, vty_int, vty_str, vty_tup, vty_lst, vty_frl, vty_dic, vbi_lenT, vbi_lenL, vbi_lenF, vbi_lenD, vbi_abs, vbi_intI, vbi_intB, vbi_max2, vbi_min2, vbi_maxL, vbi_minL, vbi_sum, vbi_all, vbi_any, vbi_listT, vbi_listL, vbi_tupT, vbi_tupL, vbi_sortL, vbi_sortD, vwk_tup, vwk_lst, vr1_, vr2_, vzp_tt, vzp_ll, vsb_tup, vsb_lst, vsb_frl, vsb_dic, vsl_tup, vsl_lst, vrv_lst, vsk_abs, vjn_s, vsg_, vcx_cl, vfi_rt, vfi_nx, List.getElem?_cons_zero, List.getElem?_cons_succ, List.set_cons_zero, List.set_cons_succ, Option.map_some, Option.map_none, Option.bind_some, List.length_cons, List.length_nil, Nat.reduceAdd, Nat.reduceLT, Nat.reduceSub, reduceIte, Bool.not_true, Bool.not_false, Bool.and_true, Bool.true_and, Bool.and_false, Bool.false_and, Bool.or_true, Bool.true_or, Bool.or_false, Bool.false_or, vcx_sg, Bool.false_eq_true, if_false, if_true, List.nil_append, String.reduceBEq, String.reduceEq, hn, decide_false]
end
end KLaw
namespace KLaw
open PySem PySem.Spec PyProof.Rows L2 DE

open CL
section
variable (S A K t o7 o8 o9 : Option D)
theorem st2 {a b : List Int} (h : OKp a b) (bag : Option D) : ex (cxT tab 19) q_law_1_1_2 [S, A, K, bag, t, some (T a), some (T b), o7, o8, o9, none] = .nx [S, A, K, bag, t, some (T a), some (T b), some (RD a b), o8, o9, none] := by
  have e := law_made_ok 18 a b (by have := h.la; omega) (by have := h.lb; omega)
  simp -implicitDefEqProofs only [q_law_1_1_2, eev_cst, eev_var, eev_tupD, eev_lstD, eev_dic0, eev_bin, eev_neg, eev_cmp, eev_isN, eev_chn, eev_notE, eev_andE, eev_orE, eev_ite, eev_sub, eev_slc, eev_rev, eev_call, eev_bi, eev_isi, eev_lc, eev_dc, eev_sortK, eevs_nil, eevs_cons, eevO_no, eevO_so, eevT_tru, eevT_nt, eevT_an, eevT_or, eevL_ex, eevL_rng1, eevL_rng2, eevL_zip, eex_set, eex_par, eex_setI, eex_app, eex_exp, eex_ifs, eex_fr, eex_ret, eex_retN, eex_never, eexs_nil, eexs_cons, vmk_var, vmk_cst, vmk_tupD, vmk_lstD, vmk_dic0, vmk_bin, vmk_neg, vmk_cmp, vmk_isN, vmk_chn, vmk_notE, vmk_andE, vmk_orE, vmk_ite, vmk_sub, vmk_slc, vmk_rev, vmk_call, vmk_bi, vmk_isi, vmk_lc, vmk_dc, vmk_sortK, vbd_ok, vbd_st, vts_ok, vsq_nx, vsq_rt, vnx_ok, voO_some, vb1_bl, vgt_val, vgt_slot, vgs_nil, vgs_cons, vrv_, vso_nil, vso_val, vso_slot, vo1_, vo2_, voN_, voL_, vsu_, vag_nm, vag_tp, vsa_nil, vsa_cons, vwp_nil, vwp_cons, vbk_nil, vbk_cons, var_nil, var_val, var_slot, var_mut, vbo_nil, vbo_false, vbo_true, vpm_nil, vpm_cons, vco_, vevTo_no, vevTo_so, vsp_, vil_, vap_, vou_nil, vou_false, vou_true, vsh_tup, vsh_int, vsh_bl, vsh_non, vsh_str, vsh_frl, vsh_lst, vsh_dic, vsr_tup, vsr_int, vsr_bl, vsr_non, vsr_str, vsr_frl, vsr_lstF, vsr_lstT, vsr_dicF, vsr_dicT, vss_int, vss_nil, vss_cons, vbn_add, vbn_sub, vbn_mul, vbn_pow, vbn_mod, vbn_div, vbn_tup, vbn_lst, vcm_lt, vcm_le, vcm_gt, vcm_ge, vcm_eq, vcm_ne, vcm_eqB, vcm_neB, vcm_in, vcm_notin, vcm_eqT, vcm_neT, vcm_eqL, vcm_neL, vtr_bl, vtr_int, vtr_tup, vtr_lst, vtr_non, vno_, vng_, viN_non, viN_tup, viN_int, viN_bl, viN_str, viN_lst, viN_dic, vii_int, vii_bool, vii_str, vii_tuple, vii_list, vii_dict, vty_non, vty_bl, vty_int, vty_str, vty_tup, vty_lst, vty_frl, vty_dic, vbi_lenT, vbi_lenL, vbi_lenF, vbi_lenD, vbi_abs, vbi_intI, vbi_intB, vbi_max2, vbi_min2, vbi_maxL, vbi_minL, vbi_sum, vbi_all, vbi_any, vbi_listT, vbi_listL, vbi_tupT, vbi_tupL, vbi_sortL, vbi_sortD, vwk_tup, vwk_lst, vr1_, vr2_, vzp_tt, vzp_ll, vsb_tup, vsb_lst, vsb_frl, vsb_dic, vsl_tup, vsl_lst, vrv_lst, vsk_abs, vjn_s, vsg_, vcx_cl, vfi_rt, vfi_nx, List.getElem?_cons_zero, List.getElem?_cons_succ, List.set_cons_zero, List.set_cons_succ, Option.map_some, Option.map_none, Option.bind_some, List.length_cons, List.length_nil, Nat.reduceAdd, Nat.reduceLT, Nat.reduceSub, reduceIte, Bool.not_true, Bool.not_false, Bool.and_true, Bool.true_and, Bool.and_false, Bool.false_and, Bool.or_true, Bool.true_or, Bool.or_false, Bool.false_or, vcx_sg, Bool.false_eq_true, if_false, if_true, List.nil_append, String.reduceBEq, String.reduceEq, t__law_made, g__law_made, e]
theorem st3 {a b : List Int} (h : OKp a b) (bag : Option D) : ex (cxT tab 19) q_law_1_1_3 [S, A, K, bag, t, some (T a), some (T b), some (RD a b), o8, o9, none] = .nx [S, A, K, bag, t, some (T a), some (T b), some (RD a b), o8, o9, none] := by
  have s := h.sm 16
  have s2 := (Sm_pair s s).ok
  simp -implicitDefEqProofs (disch := omega) only [q_law_1_1_3, eev_cst, eev_var, eev_tupD, eev_lstD, eev_dic0, eev_bin, eev_neg, eev_cmp, eev_isN, eev_chn, eev_notE, eev_andE, eev_orE, eev_ite, eev_sub, eev_slc, eev_rev, eev_call, eev_bi, eev_isi, eev_lc, eev_dc, eev_sortK, eevs_nil, eevs_cons, eevO_no, eevO_so, eevT_tru, eevT_nt, eevT_an, eevT_or, eevL_ex, eevL_rng1, eevL_rng2, eevL_zip, eex_set, eex_par, eex_setI, eex_app, eex_exp, eex_ifs, eex_fr, eex_ret, eex_retN, eex_never, eexs_nil, eexs_cons, vmk_var, vmk_cst, vmk_tupD, vmk_lstD, vmk_dic0, vmk_bin, vmk_neg, vmk_cmp, vmk_isN, vmk_chn, vmk_notE, vmk_andE, vmk_orE, vmk_ite, vmk_sub, vmk_slc, vmk_rev, vmk_call, vmk_bi, vmk_isi, vmk_lc, vmk_dc, vmk_sortK, vbd_ok, vbd_st, vts_ok, vsq_nx, vsq_rt, vnx_ok, voO_some, vb1_bl, vgt_val, vgt_slot, vgs_nil, vgs_cons, vrv_, vso_nil, vso_val, vso_slot, vo1_, vo2_, voN_, voL_, vsu_, vag_nm, vag_tp, vsa_nil, vsa_cons, vwp_nil, vwp_cons, vbk_nil, vbk_cons, var_nil, var_val, var_slot, var_mut, vbo_nil, vbo_false, vbo_true, vpm_nil, vpm_cons, vco_, vevTo_no, vevTo_so, vsp_, vil_, vap_, vou_nil, vou_false, vou_true, vsh_tup, vsh_int, vsh_bl, vsh_non, vsh_str, vsh_frl, vsh_lst, vsh_dic, vsr_tup, vsr_int, vsr_bl, vsr_non, vsr_str, vsr_frl, vsr_lstF, vsr_lstT, vsr_dicF, vsr_dicT, vss_int, vss_nil, vss_cons, vbn_add, vbn_sub, vbn_mul, vbn_pow, vbn_mod, vbn_div, vbn_tup, vbn_lst, vcm_lt, vcm_le, vcm_gt, vcm_ge, vcm_eq, vcm_ne, vcm_eqB, vcm_neB, vcm_in, vcm_notin, vcm_eqT, vcm_neT, vcm_eqL, vcm_neL, vtr_bl, vtr_int, vtr_tup, vtr_lst, vtr_non, vno_, vng_, viN_non, viN_tup, viN_int, viN_bl, viN_str, viN_lst, viN_dic, vii_int, vii_bool, vii_str, vii_tuple, vii_list, vii_dict, vty_non, vty_bl, vty_int, vty_str, vty_tup, vty_lst, vty_frl, vty_dic, vbi_lenT, vbi_lenL, vbi_lenF, vbi_lenD, vbi_abs, vbi_intI, vbi_intB, vbi_max2, vbi_min2, vbi_maxL, vbi_minL, vbi_sum, vbi_all, vbi_any, vbi_listT, vbi_listL, vbi_tupT, vbi_tupL, vbi_sortL, vbi_sortD, vwk_tup, vwk_lst, vr1_, vr2_, vzp_tt, vzp_ll, vsb_tup, vsb_lst, vsb_frl, vsb_dic, vsl_tup, vsl_lst, vrv_lst, vsk_abs, vjn_s, vsg_, vcx_cl, vfi_rt, vfi_nx, List.getElem?_cons_zero, List.getElem?_cons_succ, List.set_cons_zero, List.set_cons_succ, Option.map_some, Option.map_none, Option.bind_some, List.length_cons, List.length_nil, Nat.reduceAdd, Nat.reduceLT, Nat.reduceSub, reduceIte, Bool.not_true, Bool.not_false, Bool.and_true, Bool.true_and, Bool.and_false, Bool.false_and, Bool.or_true, Bool.true_or, Bool.or_false, Bool.false_or, vcx_sg, Bool.false_eq_true, if_false, if_true, List.nil_append, String.reduceBEq, String.reduceEq, t_resolved, g_resolved, h.r1 14, h.r2 14, s.s1, s.s2, vss_cons, vss_nil, t__law_same, g__law_same, s2, vsz_]
theorem st4 {a b : List Int} (h : OKp a b) (bag : Option D) : ex (cxT tab 19) q_law_1_1_4 [S, A, K, bag, t, some (T a), some (T b), some (RD a b), o8, o9, none] = .nx [S, A, K, bag, t, some (T a), some (T b), some (RD a b), o8, o9, none] := by
  unfold RD
  cases hm : made a b with
  | none => simp -implicitDefEqProofs only [q_law_1_1_4, eev_cst, eev_var, eev_tupD, eev_lstD, eev_dic0, eev_bin, eev_neg, eev_cmp, eev_isN, eev_chn, eev_notE, eev_andE, eev_orE, eev_ite, eev_sub, eev_slc, eev_rev, eev_call, eev_bi, eev_isi, eev_lc, eev_dc, eev_sortK, eevs_nil, eevs_cons, eevO_no, eevO_so, eevT_tru, eevT_nt, eevT_an, eevT_or, eevL_ex, eevL_rng1, eevL_rng2, eevL_zip, eex_set, eex_par, eex_setI, eex_app, eex_exp, eex_ifs, eex_fr, eex_ret, eex_retN, eex_never, eexs_nil, eexs_cons, vmk_var, vmk_cst, vmk_tupD, vmk_lstD, vmk_dic0, vmk_bin, vmk_neg, vmk_cmp, vmk_isN, vmk_chn, vmk_notE, vmk_andE, vmk_orE, vmk_ite, vmk_sub, vmk_slc, vmk_rev, vmk_call, vmk_bi, vmk_isi, vmk_lc, vmk_dc, vmk_sortK, vbd_ok, vbd_st, vts_ok, vsq_nx, vsq_rt, vnx_ok, voO_some, vb1_bl, vgt_val, vgt_slot, vgs_nil, vgs_cons, vrv_, vso_nil, vso_val, vso_slot, vo1_, vo2_, voN_, voL_, vsu_, vag_nm, vag_tp, vsa_nil, vsa_cons, vwp_nil, vwp_cons, vbk_nil, vbk_cons, var_nil, var_val, var_slot, var_mut, vbo_nil, vbo_false, vbo_true, vpm_nil, vpm_cons, vco_, vevTo_no, vevTo_so, vsp_, vil_, vap_, vou_nil, vou_false, vou_true, vsh_tup, vsh_int, vsh_bl, vsh_non, vsh_str, vsh_frl, vsh_lst, vsh_dic, vsr_tup, vsr_int, vsr_bl, vsr_non, vsr_str, vsr_frl, vsr_lstF, vsr_lstT, vsr_dicF, vsr_dicT, vss_int, vss_nil, vss_cons, vbn_add, vbn_sub, vbn_mul, vbn_pow, vbn_mod, vbn_div, vbn_tup, vbn_lst, vcm_lt, vcm_le, vcm_gt, vcm_ge, vcm_eq, vcm_ne, vcm_eqB, vcm_neB, vcm_in, vcm_notin, vcm_eqT, vcm_neT, vcm_eqL, vcm_neL, vtr_bl, vtr_int, vtr_tup, vtr_lst, vtr_non, vno_, vng_, viN_non, viN_tup, viN_int, viN_bl, viN_str, viN_lst, viN_dic, vii_int, vii_bool, vii_str, vii_tuple, vii_list, vii_dict, vty_non, vty_bl, vty_int, vty_str, vty_tup, vty_lst, vty_frl, vty_dic, vbi_lenT, vbi_lenL, vbi_lenF, vbi_lenD, vbi_abs, vbi_intI, vbi_intB, vbi_max2, vbi_min2, vbi_maxL, vbi_minL, vbi_sum, vbi_all, vbi_any, vbi_listT, vbi_listL, vbi_tupT, vbi_tupL, vbi_sortL, vbi_sortD, vwk_tup, vwk_lst, vr1_, vr2_, vzp_tt, vzp_ll, vsb_tup, vsb_lst, vsb_frl, vsb_dic, vsl_tup, vsl_lst, vrv_lst, vsk_abs, vjn_s, vsg_, vcx_cl, vfi_rt, vfi_nx, List.getElem?_cons_zero, List.getElem?_cons_succ, List.set_cons_zero, List.set_cons_succ, Option.map_some, Option.map_none, Option.bind_some, List.length_cons, List.length_nil, Nat.reduceAdd, Nat.reduceLT, Nat.reduceSub, reduceIte, Bool.not_true, Bool.not_false, Bool.and_true, Bool.true_and, Bool.and_false, Bool.false_and, Bool.or_true, Bool.true_or, Bool.or_false, Bool.false_or, vcx_sg, Bool.false_eq_true, if_false, if_true, List.nil_append, String.reduceBEq, String.reduceEq]
  | some c =>
    have e := follows_ok 17 h.ca h.cb hm
    simp -implicitDefEqProofs only [q_law_1_1_4, eev_cst, eev_var, eev_tupD, eev_lstD, eev_dic0, eev_bin, eev_neg, eev_cmp, eev_isN, eev_chn, eev_notE, eev_andE, eev_orE, eev_ite, eev_sub, eev_slc, eev_rev, eev_call, eev_bi, eev_isi, eev_lc, eev_dc, eev_sortK, eevs_nil, eevs_cons, eevO_no, eevO_so, eevT_tru, eevT_nt, eevT_an, eevT_or, eevL_ex, eevL_rng1, eevL_rng2, eevL_zip, eex_set, eex_par, eex_setI, eex_app, eex_exp, eex_ifs, eex_fr, eex_ret, eex_retN, eex_never, eexs_nil, eexs_cons, vmk_var, vmk_cst, vmk_tupD, vmk_lstD, vmk_dic0, vmk_bin, vmk_neg, vmk_cmp, vmk_isN, vmk_chn, vmk_notE, vmk_andE, vmk_orE, vmk_ite, vmk_sub, vmk_slc, vmk_rev, vmk_call, vmk_bi, vmk_isi, vmk_lc, vmk_dc, vmk_sortK, vbd_ok, vbd_st, vts_ok, vsq_nx, vsq_rt, vnx_ok, voO_some, vb1_bl, vgt_val, vgt_slot, vgs_nil, vgs_cons, vrv_, vso_nil, vso_val, vso_slot, vo1_, vo2_, voN_, voL_, vsu_, vag_nm, vag_tp, vsa_nil, vsa_cons, vwp_nil, vwp_cons, vbk_nil, vbk_cons, var_nil, var_val, var_slot, var_mut, vbo_nil, vbo_false, vbo_true, vpm_nil, vpm_cons, vco_, vevTo_no, vevTo_so, vsp_, vil_, vap_, vou_nil, vou_false, vou_true, vsh_tup, vsh_int, vsh_bl, vsh_non, vsh_str, vsh_frl, vsh_lst, vsh_dic, vsr_tup, vsr_int, vsr_bl, vsr_non, vsr_str, vsr_frl, vsr_lstF, vsr_lstT, vsr_dicF, vsr_dicT, vss_int, vss_nil, vss_cons, vbn_add, vbn_sub, vbn_mul, vbn_pow, vbn_mod, vbn_div, vbn_tup, vbn_lst, vcm_lt, vcm_le, vcm_gt, vcm_ge, vcm_eq, vcm_ne, vcm_eqB, vcm_neB, vcm_in, vcm_notin, vcm_eqT, vcm_neT, vcm_eqL, vcm_neL, vtr_bl, vtr_int, vtr_tup, vtr_lst, vtr_non, vno_, vng_, viN_non, viN_tup, viN_int, viN_bl, viN_str, viN_lst, viN_dic, vii_int, vii_bool, vii_str, vii_tuple, vii_list, vii_dict, vty_non, vty_bl, vty_int, vty_str, vty_tup, vty_lst, vty_frl, vty_dic, vbi_lenT, vbi_lenL, vbi_lenF, vbi_lenD, vbi_abs, vbi_intI, vbi_intB, vbi_max2, vbi_min2, vbi_maxL, vbi_minL, vbi_sum, vbi_all, vbi_any, vbi_listT, vbi_listL, vbi_tupT, vbi_tupL, vbi_sortL, vbi_sortD, vwk_tup, vwk_lst, vr1_, vr2_, vzp_tt, vzp_ll, vsb_tup, vsb_lst, vsb_frl, vsb_dic, vsl_tup, vsl_lst, vrv_lst, vsk_abs, vjn_s, vsg_, vcx_cl, vfi_rt, vfi_nx, List.getElem?_cons_zero, List.getElem?_cons_succ, List.set_cons_zero, List.set_cons_succ, Option.map_some, Option.map_none, Option.bind_some, List.length_cons, List.length_nil, Nat.reduceAdd, Nat.reduceLT, Nat.reduceSub, reduceIte, Bool.not_true, Bool.not_false, Bool.and_true, Bool.true_and, Bool.and_false, Bool.false_and, Bool.or_true, Bool.true_or, Bool.or_false, Bool.false_or, vcx_sg, Bool.false_eq_true, if_false, if_true, List.nil_append, String.reduceBEq, String.reduceEq, t__law_follows_right, g__law_follows_right, e]
theorem st5 {a b : List Int} (h : OKp a b) {c : Nat} {bag : D} (hb : Bg c bag) (hc : c ≤ 2 ^ 28) (o7 : Option D) : ∃ bag', ex (cxT tab 19) q_law_1_1_5 [S, A, K, some bag, t, some (T a), some (T b), o7, o8, o9, none] = .nx [S, A, K, some bag', t, some (T a), some (T b), o7, o8, o9, none] ∧ Bg (c + 1) bag' := by
  obtain ⟨d, bag', e1, hd, hb'⟩ := odd_ok 17 hb hc a (by have := h.la; omega)
  refine ⟨bag', ?_, hb'⟩
  have hs := L15_shd a d hd
  have e2 := L15_no 15 a d hd
  have e3 := is_clause_T 15 a 5 (by decide)
  rw [clB_iff.mpr h.ca] at e3
  have s2 := (Sm_pair (Sm_bl 17 true) (Sm_bl 17 false)).ok
  simp -implicitDefEqProofs (disch := omega) only [q_law_1_1_5, eev_cst, eev_var, eev_tupD, eev_lstD, eev_dic0, eev_bin, eev_neg, eev_cmp, eev_isN, eev_chn, eev_notE, eev_andE, eev_orE, eev_ite, eev_sub, eev_slc, eev_rev, eev_call, eev_bi, eev_isi, eev_lc, eev_dc, eev_sortK, eevs_nil, eevs_cons, eevO_no, eevO_so, eevT_tru, eevT_nt, eevT_an, eevT_or, eevL_ex, eevL_rng1, eevL_rng2, eevL_zip, eex_set, eex_par, eex_setI, eex_app, eex_exp, eex_ifs, eex_fr, eex_ret, eex_retN, eex_never, eexs_nil, eexs_cons, vmk_var, vmk_cst, vmk_tupD, vmk_lstD, vmk_dic0, vmk_bin, vmk_neg, vmk_cmp, vmk_isN, vmk_chn, vmk_notE, vmk_andE, vmk_orE, vmk_ite, vmk_sub, vmk_slc, vmk_rev, vmk_call, vmk_bi, vmk_isi, vmk_lc, vmk_dc, vmk_sortK, vbd_ok, vbd_st, vts_ok, vsq_nx, vsq_rt, vnx_ok, voO_some, vb1_bl, vgt_val, vgt_slot, vgs_nil, vgs_cons, vrv_, vso_nil, vso_val, vso_slot, vo1_, vo2_, voN_, voL_, vsu_, vag_nm, vag_tp, vsa_nil, vsa_cons, vwp_nil, vwp_cons, vbk_nil, vbk_cons, var_nil, var_val, var_slot, var_mut, vbo_nil, vbo_false, vbo_true, vpm_nil, vpm_cons, vco_, vevTo_no, vevTo_so, vsp_, vil_, vap_, vou_nil, vou_false, vou_true, vsh_tup, vsh_int, vsh_bl, vsh_non, vsh_str, vsh_frl, vsh_lst, vsh_dic, vsr_tup, vsr_int, vsr_bl, vsr_non, vsr_str, vsr_frl, vsr_lstF, vsr_lstT, vsr_dicF, vsr_dicT, vss_int, vss_nil, vss_cons, vbn_add, vbn_sub, vbn_mul, vbn_pow, vbn_mod, vbn_div, vbn_tup, vbn_lst, vcm_lt, vcm_le, vcm_gt, vcm_ge, vcm_eq, vcm_ne, vcm_eqB, vcm_neB, vcm_in, vcm_notin, vcm_eqT, vcm_neT, vcm_eqL, vcm_neL, vtr_bl, vtr_int, vtr_tup, vtr_lst, vtr_non, vno_, vng_, viN_non, viN_tup, viN_int, viN_bl, viN_str, viN_lst, viN_dic, vii_int, vii_bool, vii_str, vii_tuple, vii_list, vii_dict, vty_non, vty_bl, vty_int, vty_str, vty_tup, vty_lst, vty_frl, vty_dic, vbi_lenT, vbi_lenL, vbi_lenF, vbi_lenD, vbi_abs, vbi_intI, vbi_intB, vbi_max2, vbi_min2, vbi_maxL, vbi_minL, vbi_sum, vbi_all, vbi_any, vbi_listT, vbi_listL, vbi_tupT, vbi_tupL, vbi_sortL, vbi_sortD, vwk_tup, vwk_lst, vr1_, vr2_, vzp_tt, vzp_ll, vsb_tup, vsb_lst, vsb_frl, vsb_dic, vsl_tup, vsl_lst, vrv_lst, vsk_abs, vjn_s, vsg_, vcx_cl, vfi_rt, vfi_nx, List.getElem?_cons_zero, List.getElem?_cons_succ, List.set_cons_zero, List.set_cons_succ, Option.map_some, Option.map_none, Option.bind_some, List.length_cons, List.length_nil, Nat.reduceAdd, Nat.reduceLT, Nat.reduceSub, reduceIte, Bool.not_true, Bool.not_false, Bool.and_true, Bool.true_and, Bool.and_false, Bool.false_and, Bool.or_true, Bool.true_or, Bool.or_false, Bool.false_or, vcx_sg, Bool.false_eq_true, if_false, if_true, List.nil_append, String.reduceBEq, String.reduceEq, t_is_clause, g_is_clause, t__law_odd, g__law_odd, e1, e2, e3, hs.1, hs.2, vss_cons, vss_nil, t__law_same, g__law_same, s2, vsz_]
/-- the highest variable -/
def few (a : List Int) : Int := maxI (0 :: a.map ab)
theorem st6 {a b : List Int} (h : OKp a b) (bag o7 : Option D) : ex (cxT tab 19) q_law_1_1_6 [S, A, K, bag, t, some (T a), some (T b), o7, o8, o9, none] = .nx [S, A, K, bag, t, some (T a), some (T b), o7, some (.int (few a)), o9, none] := by
  have e2 := lc_abs (cxT tab 19) a 10 [S, A, K, bag, t, some (T a), some (T b), o7, o8, o9, none] (fun x hx => by
    refine ⟨_, [S, A, K, bag, t, some (T a), some (T b), o7, o8, o9, some (.int x)], rfl, ?_, rfl⟩
    simp -implicitDefEqProofs only [eev_cst, eev_var, eev_tupD, eev_lstD, eev_dic0, eev_bin, eev_neg, eev_cmp, eev_isN, eev_chn, eev_notE, eev_andE, eev_orE, eev_ite, eev_sub, eev_slc, eev_rev, eev_call, eev_bi, eev_isi, eev_lc, eev_dc, eev_sortK, eevs_nil, eevs_cons, eevO_no, eevO_so, eevT_tru, eevT_nt, eevT_an, eevT_or, eevL_ex, eevL_rng1, eevL_rng2, eevL_zip, eex_set, eex_par, eex_setI, eex_app, eex_exp, eex_ifs, eex_fr, eex_ret, eex_retN, eex_never, eexs_nil, eexs_cons, vmk_var, vmk_cst, vmk_tupD, vmk_lstD, vmk_dic0, vmk_bin, vmk_neg, vmk_cmp, vmk_isN, vmk_chn, vmk_notE, vmk_andE, vmk_orE, vmk_ite, vmk_sub, vmk_slc, vmk_rev, vmk_call, vmk_bi, vmk_isi, vmk_lc, vmk_dc, vmk_sortK, vbd_ok, vbd_st, vts_ok, vsq_nx, vsq_rt, vnx_ok, voO_some, vb1_bl, vgt_val, vgt_slot, vgs_nil, vgs_cons, vrv_, vso_nil, vso_val, vso_slot, vo1_, vo2_, voN_, voL_, vsu_, vag_nm, vag_tp, vsa_nil, vsa_cons, vwp_nil, vwp_cons, vbk_nil, vbk_cons, var_nil, var_val, var_slot, var_mut, vbo_nil, vbo_false, vbo_true, vpm_nil, vpm_cons, vco_, vevTo_no, vevTo_so, vsp_, vil_, vap_, vou_nil, vou_false, vou_true, vsh_tup, vsh_int, vsh_bl, vsh_non, vsh_str, vsh_frl, vsh_lst, vsh_dic, vsr_tup, vsr_int, vsr_bl, vsr_non, vsr_str, vsr_frl, vsr_lstF, vsr_lstT, vsr_dicF, vsr_dicT, vss_int, vss_nil, vss_cons, vbn_add, vbn_sub, vbn_mul, vbn_pow, vbn_mod, vbn_div, vbn_tup, vbn_lst, vcm_lt, vcm_le, vcm_gt, vcm_ge, vcm_eq, vcm_ne, vcm_eqB, vcm_neB, vcm_in, vcm_notin, vcm_eqT, vcm_neT, vcm_eqL, vcm_neL, vtr_bl, vtr_int, vtr_tup, vtr_lst, vtr_non, vno_, vng_, viN_non, viN_tup, viN_int, viN_bl, viN_str, viN_lst, viN_dic, vii_int, vii_bool, vii_str, vii_tuple, vii_list, vii_dict, vty_non, vty_bl, vty_int, vty_str, vty_tup, vty_lst, vty_frl, vty_dic, vbi_lenT, vbi_lenL, vbi_lenF, vbi_lenD, vbi_abs, vbi_intI, vbi_intB, vbi_max2, vbi_min2, vbi_maxL, vbi_minL, vbi_sum, vbi_all, vbi_any, vbi_listT, vbi_listL, vbi_tupT, vbi_tupL, vbi_sortL, vbi_sortD, vwk_tup, vwk_lst, vr1_, vr2_, vzp_tt, vzp_ll, vsb_tup, vsb_lst, vsb_frl, vsb_dic, vsl_tup, vsl_lst, vrv_lst, vsk_abs, vjn_s, vsg_, vcx_cl, vfi_rt, vfi_nx, List.getElem?_cons_zero, List.getElem?_cons_succ, List.set_cons_zero, List.set_cons_succ, Option.map_some, Option.map_none, Option.bind_some, List.length_cons, List.length_nil, Nat.reduceAdd, Nat.reduceLT, Nat.reduceSub, reduceIte, Bool.not_true, Bool.not_false, Bool.and_true, Bool.true_and, Bool.and_false, Bool.false_and, Bool.or_true, Bool.true_or, Bool.or_false, Bool.false_or, vcx_sg, Bool.false_eq_true, if_false, if_true, List.nil_append, String.reduceBEq, String.reduceEq]; rfl)
  have e3 : intsOf (D.int 0 :: (a.map ab).map D.int) = some (0 :: a.map ab) := DE.ints_map (0 :: a.map ab)
  have hl := h.la
  simp -implicitDefEqProofs (disch := omega) only [q_law_1_1_6, eev_cst, eev_var, eev_tupD, eev_lstD, eev_dic0, eev_bin, eev_neg, eev_cmp, eev_isN, eev_chn, eev_notE, eev_andE, eev_orE, eev_ite, eev_sub, eev_slc, eev_rev, eev_call, eev_bi, eev_isi, eev_lc, eev_dc, eev_sortK, eevs_nil, eevs_cons, eevO_no, eevO_so, eevT_tru, eevT_nt, eevT_an, eevT_or, eevL_ex, eevL_rng1, eevL_rng2, eevL_zip, eex_set, eex_par, eex_setI, eex_app, eex_exp, eex_ifs, eex_fr, eex_ret, eex_retN, eex_never, eexs_nil, eexs_cons, vmk_var, vmk_cst, vmk_tupD, vmk_lstD, vmk_dic0, vmk_bin, vmk_neg, vmk_cmp, vmk_isN, vmk_chn, vmk_notE, vmk_andE, vmk_orE, vmk_ite, vmk_sub, vmk_slc, vmk_rev, vmk_call, vmk_bi, vmk_isi, vmk_lc, vmk_dc, vmk_sortK, vbd_ok, vbd_st, vts_ok, vsq_nx, vsq_rt, vnx_ok, voO_some, vb1_bl, vgt_val, vgt_slot, vgs_nil, vgs_cons, vrv_, vso_nil, vso_val, vso_slot, vo1_, vo2_, voN_, voL_, vsu_, vag_nm, vag_tp, vsa_nil, vsa_cons, vwp_nil, vwp_cons, vbk_nil, vbk_cons, var_nil, var_val, var_slot, var_mut, vbo_nil, vbo_false, vbo_true, vpm_nil, vpm_cons, vco_, vevTo_no, vevTo_so, vsp_, vil_, vap_, vou_nil, vou_false, vou_true, vsh_tup, vsh_int, vsh_bl, vsh_non, vsh_str, vsh_frl, vsh_lst, vsh_dic, vsr_tup, vsr_int, vsr_bl, vsr_non, vsr_str, vsr_frl, vsr_lstF, vsr_lstT, vsr_dicF, vsr_dicT, vss_int, vss_nil, vss_cons, vbn_add, vbn_sub, vbn_mul, vbn_pow, vbn_mod, vbn_div, vbn_tup, vbn_lst, vcm_lt, vcm_le, vcm_gt, vcm_ge, vcm_eq, vcm_ne, vcm_eqB, vcm_neB, vcm_in, vcm_notin, vcm_eqT, vcm_neT, vcm_eqL, vcm_neL, vtr_bl, vtr_int, vtr_tup, vtr_lst, vtr_non, vno_, vng_, viN_non, viN_tup, viN_int, viN_bl, viN_str, viN_lst, viN_dic, vii_int, vii_bool, vii_str, vii_tuple, vii_list, vii_dict, vty_non, vty_bl, vty_int, vty_str, vty_tup, vty_lst, vty_frl, vty_dic, vbi_lenT, vbi_lenL, vbi_lenF, vbi_lenD, vbi_abs, vbi_intI, vbi_intB, vbi_max2, vbi_min2, vbi_maxL, vbi_minL, vbi_sum, vbi_all, vbi_any, vbi_listT, vbi_listL, vbi_tupT, vbi_tupL, vbi_sortL, vbi_sortD, vwk_tup, vwk_lst, vr1_, vr2_, vzp_tt, vzp_ll, vsb_tup, vsb_lst, vsb_frl, vsb_dic, vsl_tup, vsl_lst, vrv_lst, vsk_abs, vjn_s, vsg_, vcx_cl, vfi_rt, vfi_nx, List.getElem?_cons_zero, List.getElem?_cons_succ, List.set_cons_zero, List.set_cons_succ, Option.map_some, Option.map_none, Option.bind_some, List.length_cons, List.length_nil, Nat.reduceAdd, Nat.reduceLT, Nat.reduceSub, reduceIte, Bool.not_true, Bool.not_false, Bool.and_true, Bool.true_and, Bool.and_false, Bool.false_and, Bool.or_true, Bool.true_or, Bool.or_false, Bool.false_or, vcx_sg, Bool.false_eq_true, if_false, if_true, List.nil_append, String.reduceBEq, String.reduceEq, e2, shd_ints, vsz_, List.length_map, List.all_cons, List.all_nil, List.cons_append, List.isEmpty_cons, e3]
  rfl
theorem few_no {a : List Int} (h : 1 < few a) : clB (few a - 1) a = false := by
  cases e : clB (few a - 1) a with
  | false => rfl
  | true =>
    have c := clB_iff.mp e
    have m := CL.maxI_mem (l := 0 :: a.map ab) (by simp)
    rcases List.mem_cons.mp m with q | q
    · have : few a = 0 := q
      omega
    · obtain ⟨x, hx, ex⟩ := List.mem_map.mp q
      have := c.lit x hx
      have : few a = ab x := ex.symm
      omega
theorem st7 {a b : List Int} (h : OKp a b) (bag o7 : Option D) : ex (cxT tab 19) q_law_1_1_7 [S, A, K, bag, t, some (T a), some (T b), o7, some (.int (few a)), o9, none] = .nx [S, A, K, bag, t, some (T a), some (T b), o7, some (.int (few a)), o9, none] := by
  by_cases hf : 1 < few a
  · have e1 := is_clause_T 15 a (few a) (by omega)
    rw [show clB (few a) a = true from max_cl h.ca] at e1
    have e2 := is_clause_T 15 a (few a - 1) (by omega)
    rw [few_no hf] at e2
    have s2 := (Sm_pair (Sm_bl 17 true) (Sm_bl 17 false)).ok
    simp -implicitDefEqProofs (disch := omega) only [q_law_1_1_7, eev_cst, eev_var, eev_tupD, eev_lstD, eev_dic0, eev_bin, eev_neg, eev_cmp, eev_isN, eev_chn, eev_notE, eev_andE, eev_orE, eev_ite, eev_sub, eev_slc, eev_rev, eev_call, eev_bi, eev_isi, eev_lc, eev_dc, eev_sortK, eevs_nil, eevs_cons, eevO_no, eevO_so, eevT_tru, eevT_nt, eevT_an, eevT_or, eevL_ex, eevL_rng1, eevL_rng2, eevL_zip, eex_set, eex_par, eex_setI, eex_app, eex_exp, eex_ifs, eex_fr, eex_ret, eex_retN, eex_never, eexs_nil, eexs_cons, vmk_var, vmk_cst, vmk_tupD, vmk_lstD, vmk_dic0, vmk_bin, vmk_neg, vmk_cmp, vmk_isN, vmk_chn, vmk_notE, vmk_andE, vmk_orE, vmk_ite, vmk_sub, vmk_slc, vmk_rev, vmk_call, vmk_bi, vmk_isi, vmk_lc, vmk_dc, vmk_sortK, vbd_ok, vbd_st, vts_ok, vsq_nx, vsq_rt, vnx_ok, voO_some, vb1_bl, vgt_val, vgt_slot, vgs_nil, vgs_cons, vrv_, vso_nil, vso_val, vso_slot, vo1_, vo2_, voN_, voL_, vsu_, vag_nm, vag_tp, vsa_nil, vsa_cons, vwp_nil, vwp_cons, vbk_nil, vbk_cons, var_nil, var_val, var_slot, var_mut, vbo_nil, vbo_false, vbo_true, vpm_nil, vpm_cons, vco_, vevTo_no, vevTo_so, vsp_, vil_, vap_, vou_nil, vou_false, vou_true, vsh_tup, vsh_int, vsh_bl, vsh_non, vsh_str, vsh_frl, vsh_lst, vsh_dic, vsr_tup, vsr_int, vsr_bl, vsr_non, vsr_str, vsr_frl, vsr_lstF, vsr_lstT, vsr_dicF, vsr_dicT, vss_int, vss_nil, vss_cons, vbn_add, vbn_sub, vbn_mul, vbn_pow, vbn_mod, vbn_div, vbn_tup, vbn_lst, vcm_lt, vcm_le, vcm_gt, vcm_ge, vcm_eq, vcm_ne, vcm_eqB, vcm_neB, vcm_in, vcm_notin, vcm_eqT, vcm_neT, vcm_eqL, vcm_neL, vtr_bl, vtr_int, vtr_tup, vtr_lst, vtr_non, vno_, vng_, viN_non, viN_tup, viN_int, viN_bl, viN_str, viN_lst, viN_dic, vii_int, vii_bool, vii_str, vii_tuple, vii_list, vii_dict, vty_non, vty_bl, vty_int, vty_str, vty_tup, vty_lst, vty_frl, vty_dic, vbi_lenT, vbi_lenL, vbi_lenF, vbi_lenD, vbi_abs, vbi_intI, vbi_intB, vbi_max2, vbi_min2, vbi_maxL, vbi_minL, vbi_sum, vbi_all, vbi_any, vbi_listT, vbi_listL, vbi_tupT, vbi_tupL, vbi_sortL, vbi_sortD, vwk_tup, vwk_lst, vr1_, vr2_, vzp_tt, vzp_ll, vsb_tup, vsb_lst, vsb_frl, vsb_dic, vsl_tup, vsl_lst, vrv_lst, vsk_abs, vjn_s, vsg_, vcx_cl, vfi_rt, vfi_nx, List.getElem?_cons_zero, List.getElem?_cons_succ, List.set_cons_zero, List.set_cons_succ, Option.map_some, Option.map_none, Option.bind_some, List.length_cons, List.length_nil, Nat.reduceAdd, Nat.reduceLT, Nat.reduceSub, reduceIte, Bool.not_true, Bool.not_false, Bool.and_true, Bool.true_and, Bool.and_false, Bool.false_and, Bool.or_true, Bool.true_or, Bool.or_false, Bool.false_or, vcx_sg, Bool.false_eq_true, if_false, if_true, List.nil_append, String.reduceBEq, String.reduceEq, hf, decide_true, t_is_clause, g_is_clause, e1, e2, vss_cons, vss_nil, t__law_same, g__law_same, s2, vsz_]
  · simp -implicitDefEqProofs only [q_law_1_1_7, eev_cst, eev_var, eev_tupD, eev_lstD, eev_dic0, eev_bin, eev_neg, eev_cmp, eev_isN, eev_chn, eev_notE, eev_andE, eev_orE, eev_ite, eev_sub, eev_slc, eev_rev, eev_call, eev_bi, eev_isi, eev_lc, eev_dc, eev_sortK, eevs_nil, eevs_cons, eevO_no, eevO_so, eevT_tru, eevT_nt, eevT_an, eevT_or, eevL_ex, eevL_rng1, eevL_rng2, eevL_zip, eex_set, eex_par, eex_setI, eex_app, eex_exp, eex_ifs, eex_fr, eex_ret, eex_retN, eex_never, eexs_nil, eexs_cons, vmk_var, vmk_cst, vmk_tupD, vmk_lstD, vmk_dic0, vmk_bin, vmk_neg, vmk_cmp, vmk_isN, vmk_chn, vmk_notE, vmk_andE, vmk_orE, vmk_ite, vmk_sub, vmk_slc, vmk_rev, vmk_call, vmk_bi, vmk_isi, vmk_lc, vmk_dc, vmk_sortK, vbd_ok, vbd_st, vts_ok, vsq_nx, vsq_rt, vnx_ok, voO_some, vb1_bl, vgt_val, vgt_slot, vgs_nil, vgs_cons, vrv_, vso_nil, vso_val, vso_slot, vo1_, vo2_, voN_, voL_, vsu_, vag_nm, vag_tp, vsa_nil, vsa_cons, vwp_nil, vwp_cons, vbk_nil, vbk_cons, var_nil, var_val, var_slot, var_mut, vbo_nil, vbo_false, vbo_true, vpm_nil, vpm_cons, vco_, vevTo_no, vevTo_so, vsp_, vil_, vap_, vou_nil, vou_false, vou_true, vsh_tup, vsh_int, vsh_bl, vsh_non, vsh_str, vsh_frl, vsh_lst, vsh_dic, vsr_tup, vsr_int, vsr_bl, vsr_non, vsr_str, vsr_frl, vsr_lstF, vsr_lstT, vsr_dicF, vsr_dicT, vss_int, vss_nil, vss_cons, vbn_add, vbn_sub, vbn_mul, vbn_pow, vbn_mod, vbn_div, vbn_tup, vbn_lst, vcm_lt, vcm_le, vcm_gt, vcm_ge, vcm_eq, vcm_ne, vcm_eqB, vcm_neB, vcm_in, vcm_notin, vcm_eqT, vcm_neT, vcm_eqL, vcm_neL, vtr_bl, vtr_int, vtr_tup, vtr_lst, vtr_non, vno_, vng_, viN_non, viN_tup, viN_int, viN_bl, viN_str, viN_lst, viN_dic, vii_int, vii_bool, vii_str, vii_tuple, vii_list, vii_dict, vty_non, vty_bl, vty_int, vty_str, vty_tup, vty_lst, vty_frl, vty_dic, vbi_lenT, vbi_lenL, vbi_lenF, vbi_lenD, vbi_abs, vbi_intI, vbi_intB, vbi_max2, vbi_min2, vbi_maxL, vbi_minL, vbi_sum, vbi_all, vbi_any, vbi_listT, vbi_listL, vbi_tupT, vbi_tupL, vbi_sortL, vbi_sortD, vwk_tup, vwk_lst, vr1_, vr2_, vzp_tt, vzp_ll, vsb_tup, vsb_lst, vsb_frl, vsb_dic, vsl_tup, vsl_lst, vrv_lst, vsk_abs, vjn_s, vsg_, vcx_cl, vfi_rt, vfi_nx, List.getElem?_cons_zero, List.getElem?_cons_succ, List.set_cons_zero, List.set_cons_succ, Option.map_some, Option.map_none, Option.bind_some, List.length_cons, List.length_nil, Nat.reduceAdd, Nat.reduceLT, Nat.reduceSub, reduceIte, Bool.not_true, Bool.not_false, Bool.and_true, Bool.true_and, Bool.and_false, Bool.false_and, Bool.or_true, Bool.true_or, Bool.or_false, Bool.false_or, vcx_sg, Bool.false_eq_true, if_false, if_true, List.nil_append, String.reduceBEq, String.reduceEq, hf, decide_false]
def IT (p : List Int × List Int) : D := .tup [T p.1, T p.2, RD p.1 p.2]
theorem st8 {a b : List Int} (h : OKp a b) (its : List D) (hi : its.length ≤ 100) (bag : Option D) : ex (cxT tab 19) q_law_1_1_8 [S, some (.lst true its), K, bag, t, some (T a), some (T b), some (RD a b), o8, o9, none] = .nx [S, some (.lst true (its ++ [IT (a, b)])), K, bag, t, some (T a), some (T b), some (RD a b), o8, o9, none] := by
  have s := h.sm 16
  simp -implicitDefEqProofs (disch := omega) only [q_law_1_1_8, eev_cst, eev_var, eev_tupD, eev_lstD, eev_dic0, eev_bin, eev_neg, eev_cmp, eev_isN, eev_chn, eev_notE, eev_andE, eev_orE, eev_ite, eev_sub, eev_slc, eev_rev, eev_call, eev_bi, eev_isi, eev_lc, eev_dc, eev_sortK, eevs_nil, eevs_cons, eevO_no, eevO_so, eevT_tru, eevT_nt, eevT_an, eevT_or, eevL_ex, eevL_rng1, eevL_rng2, eevL_zip, eex_set, eex_par, eex_setI, eex_app, eex_exp, eex_ifs, eex_fr, eex_ret, eex_retN, eex_never, eexs_nil, eexs_cons, vmk_var, vmk_cst, vmk_tupD, vmk_lstD, vmk_dic0, vmk_bin, vmk_neg, vmk_cmp, vmk_isN, vmk_chn, vmk_notE, vmk_andE, vmk_orE, vmk_ite, vmk_sub, vmk_slc, vmk_rev, vmk_call, vmk_bi, vmk_isi, vmk_lc, vmk_dc, vmk_sortK, vbd_ok, vbd_st, vts_ok, vsq_nx, vsq_rt, vnx_ok, voO_some, vb1_bl, vgt_val, vgt_slot, vgs_nil, vgs_cons, vrv_, vso_nil, vso_val, vso_slot, vo1_, vo2_, voN_, voL_, vsu_, vag_nm, vag_tp, vsa_nil, vsa_cons, vwp_nil, vwp_cons, vbk_nil, vbk_cons, var_nil, var_val, var_slot, var_mut, vbo_nil, vbo_false, vbo_true, vpm_nil, vpm_cons, vco_, vevTo_no, vevTo_so, vsp_, vil_, vap_, vou_nil, vou_false, vou_true, vsh_tup, vsh_int, vsh_bl, vsh_non, vsh_str, vsh_frl, vsh_lst, vsh_dic, vsr_tup, vsr_int, vsr_bl, vsr_non, vsr_str, vsr_frl, vsr_lstF, vsr_lstT, vsr_dicF, vsr_dicT, vss_int, vss_nil, vss_cons, vbn_add, vbn_sub, vbn_mul, vbn_pow, vbn_mod, vbn_div, vbn_tup, vbn_lst, vcm_lt, vcm_le, vcm_gt, vcm_ge, vcm_eq, vcm_ne, vcm_eqB, vcm_neB, vcm_in, vcm_notin, vcm_eqT, vcm_neT, vcm_eqL, vcm_neL, vtr_bl, vtr_int, vtr_tup, vtr_lst, vtr_non, vno_, vng_, viN_non, viN_tup, viN_int, viN_bl, viN_str, viN_lst, viN_dic, vii_int, vii_bool, vii_str, vii_tuple, vii_list, vii_dict, vty_non, vty_bl, vty_int, vty_str, vty_tup, vty_lst, vty_frl, vty_dic, vbi_lenT, vbi_lenL, vbi_lenF, vbi_lenD, vbi_abs, vbi_intI, vbi_intB, vbi_max2, vbi_min2, vbi_maxL, vbi_minL, vbi_sum, vbi_all, vbi_any, vbi_listT, vbi_listL, vbi_tupT, vbi_tupL, vbi_sortL, vbi_sortD, vwk_tup, vwk_lst, vr1_, vr2_, vzp_tt, vzp_ll, vsb_tup, vsb_lst, vsb_frl, vsb_dic, vsl_tup, vsl_lst, vrv_lst, vsk_abs, vjn_s, vsg_, vcx_cl, vfi_rt, vfi_nx, List.getElem?_cons_zero, List.getElem?_cons_succ, List.set_cons_zero, List.set_cons_succ, Option.map_some, Option.map_none, Option.bind_some, List.length_cons, List.length_nil, Nat.reduceAdd, Nat.reduceLT, Nat.reduceSub, reduceIte, Bool.not_true, Bool.not_false, Bool.and_true, Bool.true_and, Bool.and_false, Bool.false_and, Bool.or_true, Bool.true_or, Bool.or_false, Bool.false_or, vcx_sg, Bool.false_eq_true, if_false, if_true, List.nil_append, String.reduceBEq, String.reduceEq, s.s1, s.s2, vsz_, IT]
theorem body_ok {c : Nat} {bag : D} (hb : Bg c bag) (hc : c ≤ 2 ^ 20) (its : List D) (hi : its.length ≤ 100) (n : Nat) (o5 o6 : Option D) : ∃ a b bag' o8' o9', OKp a b ∧ Bg (c + 21) bag' ∧
    exs (cxT tab 19) b_law_1_1 [S, some (.lst true its), K, some bag, some (.int n), o5, o6, o7, o8, o9, none] = .nx [S, some (.lst true (its ++ [IT (a, b)])), K, some bag', some (.int n), some (T a), some (T b), some (RD a b), o8', o9', none] := by
  obtain ⟨a, b0, bag1, e0, k0, l5, b1⟩ := st0 S (some (.lst true its)) K (some (.int n)) o5 o6 o7 o8 o9 hb hc
  obtain ⟨b, o9', e1, k⟩ := st1 S (some (.lst true its)) K o7 o8 o9 (some bag1) n k0 l5
  obtain ⟨bag2, e5, b2⟩ := st5 S (some (.lst true its)) K (some (.int n)) o8 o9' k b1 (by omega) (some (RD a b))
  refine ⟨a, b, bag2, some (.int (few a)), o9', k, b2, ?_⟩
  simp -implicitDefEqProofs only [b_law_1_1, eexs_cons, eexs_nil, vsq_nx, e0, e1, st2 S (some (.lst true its)) K (some (.int n)) o7 o8 o9' k, st3 S (some (.lst true its)) K (some (.int n)) o8 o9' k, st4 S (some (.lst true its)) K (some (.int n)) o8 o9' k, e5, st6 S (some (.lst true its)) K (some (.int n)) o8 o9' k, st7 S (some (.lst true its)) K (some (.int n)) o9' k, st8 S K (some (.int n)) (some (.int (few a))) o9' k its hi]
end
end KLaw
namespace KLaw
open PySem PySem.Spec PyProof.Rows L2 DE

open CL
theorem rngD_to {N : Int} (h0 : 0 ≤ N) (h : N ≤ 1000) : rngD 0 N = some ((List.range N.toNat).map fun i : Nat => .int (i : Int)) := by
  have := rngD_len (n := N.toNat) (by omega)
  rwa [Int.toNat_of_nonneg h0] at this
theorem inner_ok (S K : Option D) (its : List D) (hi : its.length ≤ 50) {bag : D} (hb : Bg 0 bag) (o4 o5 o6 o7 o8 o9 : Option D) : ∃ (ps : List (List Int × List Int)) (r3 r4 r5 r6 r7 r8 r9 : Option D), ex (cxT tab 19) q_law_1_1 [S, some (.lst true its), K, some bag, o4, o5, o6, o7, o8, o9, none] = .nx [S, some (.lst true (its ++ ps.map IT)), K, r3, r4, r5, r6, r7, r8, r9, none] ∧ ps.length = 12 ∧ ∀ p ∈ ps, OKp p.1 p.2 := by
  obtain ⟨ρ', e, ps, bag', p4, p5, p6, p7, p8, p9, rfl, hl, hp, _⟩ := forL_pre (tg := .nm 4) (body := exs (cxT tab 19) b_law_1_1) (fun i : Nat => .int (i : Int))
    (fun pre ρ => ∃ (ps : List (List Int × List Int)) (bag : D) (o4 o5 o6 o7 o8 o9 : Option D), ρ = [S, some (.lst true (its ++ ps.map IT)), K, some bag, o4, o5, o6, o7, o8, o9, none] ∧ ps.length = pre.length ∧ (∀ p ∈ ps, OKp p.1 p.2) ∧ Bg (21 * pre.length) bag)
    (List.range 12) [] [S, some (.lst true its), K, some bag, o4, o5, o6, o7, o8, o9, none] ⟨[], bag, o4, o5, o6, o7, o8, o9, by simp, rfl, by simp, by simpa using hb⟩ (by
      rintro pre x q hq ρ ⟨ps, bag, o4, o5, o6, o7, o8, o9, rfl, hl, hp, hb⟩
      have hlen : pre.length ≤ 12 := by
        have := congrArg List.length hq
        simp at this
        omega
      obtain ⟨a, b, bag', o8', o9', k, hb', e⟩ := body_ok S K o7 o8 o9 hb (by omega) (its ++ ps.map IT) (by simp; omega) x o5 o6
      refine ⟨_, _, rfl, e, ps ++ [(a, b)], bag', _, _, _, _, _, _, by rw [List.map_append, ← List.append_assoc]; rfl, by simp [hl], fun p h => ?_, hb'.le (by simp; omega)⟩
      rcases List.mem_append.mp h with h | h
      · exact hp p h
      · simp at h; subst h; exact k)
  refine ⟨ps, some bag', p4, p5, p6, p7, p8, p9, ?_, by rw [hl]; rfl, hp⟩
  have r : rngD 0 12 = some ((List.range 12).map fun i : Nat => .int (i : Int)) := rngD_len (n := 12) (by decide)
  simp -implicitDefEqProofs only [q_law_1_1, eev_cst, eev_var, eev_tupD, eev_lstD, eev_dic0, eev_bin, eev_neg, eev_cmp, eev_isN, eev_chn, eev_notE, eev_andE, eev_orE, eev_ite, eev_sub, eev_slc, eev_rev, eev_call, eev_bi, eev_isi, eev_lc, eev_dc, eev_sortK, eevs_nil, eevs_cons, eevO_no, eevO_so, eevT_tru, eevT_nt, eevT_an, eevT_or, eevL_ex, eevL_rng1, eevL_rng2, eevL_zip, eex_set, eex_par, eex_setI, eex_app, eex_exp, eex_ifs, eex_fr, eex_ret, eex_retN, eex_never, eexs_nil, eexs_cons, vmk_var, vmk_cst, vmk_tupD, vmk_lstD, vmk_dic0, vmk_bin, vmk_neg, vmk_cmp, vmk_isN, vmk_chn, vmk_notE, vmk_andE, vmk_orE, vmk_ite, vmk_sub, vmk_slc, vmk_rev, vmk_call, vmk_bi, vmk_isi, vmk_lc, vmk_dc, vmk_sortK, vbd_ok, vbd_st, vts_ok, vsq_nx, vsq_rt, vnx_ok, voO_some, vb1_bl, vgt_val, vgt_slot, vgs_nil, vgs_cons, vrv_, vso_nil, vso_val, vso_slot, vo1_, vo2_, voN_, voL_, vsu_, vag_nm, vag_tp, vsa_nil, vsa_cons, vwp_nil, vwp_cons, vbk_nil, vbk_cons, var_nil, var_val, var_slot, var_mut, vbo_nil, vbo_false, vbo_true, vpm_nil, vpm_cons, vco_, vevTo_no, vevTo_so, vsp_, vil_, vap_, vou_nil, vou_false, vou_true, vsh_tup, vsh_int, vsh_bl, vsh_non, vsh_str, vsh_frl, vsh_lst, vsh_dic, vsr_tup, vsr_int, vsr_bl, vsr_non, vsr_str, vsr_frl, vsr_lstF, vsr_lstT, vsr_dicF, vsr_dicT, vss_int, vss_nil, vss_cons, vbn_add, vbn_sub, vbn_mul, vbn_pow, vbn_mod, vbn_div, vbn_tup, vbn_lst, vcm_lt, vcm_le, vcm_gt, vcm_ge, vcm_eq, vcm_ne, vcm_eqB, vcm_neB, vcm_in, vcm_notin, vcm_eqT, vcm_neT, vcm_eqL, vcm_neL, vtr_bl, vtr_int, vtr_tup, vtr_lst, vtr_non, vno_, vng_, viN_non, viN_tup, viN_int, viN_bl, viN_str, viN_lst, viN_dic, vii_int, vii_bool, vii_str, vii_tuple, vii_list, vii_dict, vty_non, vty_bl, vty_int, vty_str, vty_tup, vty_lst, vty_frl, vty_dic, vbi_lenT, vbi_lenL, vbi_lenF, vbi_lenD, vbi_abs, vbi_intI, vbi_intB, vbi_max2, vbi_min2, vbi_maxL, vbi_minL, vbi_sum, vbi_all, vbi_any, vbi_listT, vbi_listL, vbi_tupT, vbi_tupL, vbi_sortL, vbi_sortD, vwk_tup, vwk_lst, vr1_, vr2_, vzp_tt, vzp_ll, vsb_tup, vsb_lst, vsb_frl, vsb_dic, vsl_tup, vsl_lst, vrv_lst, vsk_abs, vjn_s, vsg_, vcx_cl, vfi_rt, vfi_nx, List.getElem?_cons_zero, List.getElem?_cons_succ, List.set_cons_zero, List.set_cons_succ, Option.map_some, Option.map_none, Option.bind_some, List.length_cons, List.length_nil, Nat.reduceAdd, Nat.reduceLT, Nat.reduceSub, reduceIte, Bool.not_true, Bool.not_false, Bool.and_true, Bool.true_and, Bool.and_false, Bool.false_and, Bool.or_true, Bool.true_or, Bool.or_false, Bool.false_or, vcx_sg, Bool.false_eq_true, if_false, if_true, List.nil_append, String.reduceBEq, String.reduceEq, r, e]
theorem shares_it (ps : List (List Int × List Int)) : shares (ps.map IT) = ps.map IT := shares_of fun d h => by
  obtain ⟨p, _, rfl⟩ := List.mem_map.mp h
  exact vsr_tup _
theorem math (ns : List Int) (hl : ns.length ≤ 63) : ∃ m, callK tab 20 "law" [.frl ns] = .ok (.bl true) m := by
  refine ⟨[], ?_⟩
  generalize hN : (if (if (ns.length : Int) < 3 then (ns.length : Int) else 3) > 1 then (if (ns.length : Int) < 3 then (ns.length : Int) else 3) else 1) = N
  have hN1 : 1 ≤ N ∧ N ≤ 3 := by subst hN; split <;> split <;> omega
  obtain ⟨ρ', e, ps, p2, p3, p4, p5, p6, p7, p8, p9, rfl, hp, hok⟩ := forL_pre (tg := .nm 2) (body := exs (cxT tab 19) b_law_1) (fun i : Nat => .int (i : Int))
    (fun pre ρ => ∃ (ps : List (List Int × List Int)) (o2 o3 o4 o5 o6 o7 o8 o9 : Option D), ρ = [some (.frl ns), some (.lst true (ps.map IT)), o2, o3, o4, o5, o6, o7, o8, o9, none] ∧ ps.length = 12 * pre.length ∧ ∀ p ∈ ps, OKp p.1 p.2)
    (List.range N.toNat) [] [some (.frl ns), some (.lst true []), none, none, none, none, none, none, none, none, none] ⟨[], _, _, _, _, _, _, _, _, rfl, rfl, by simp⟩ (by
      rintro pre x q hq ρ ⟨ps, o2, o3, o4, o5, o6, o7, o8, o9, rfl, hl1, hok⟩
      have hlen : pre.length < 3 := by
        have := congrArg List.length hq
        simp at this
        omega
      have hx : x < N.toNat := by
        have : x ∈ [] ++ List.range N.toNat := by rw [hq]; simp
        simpa using this
      obtain ⟨bag, eb, hb⟩ := bag_ok 18 ns x (by omega) hl
      obtain ⟨qs, r3, r4, r5, r6, r7, r8, r9, ei, hql, hqk⟩ := inner_ok (some (.frl ns)) (some (.int x)) (ps.map IT) (by simp; omega) hb o4 o5 o6 o7 o8 o9
      refine ⟨_, [some (.frl ns), some (.lst true ((ps ++ qs).map IT)), some (.int x), r3, r4, r5, r6, r7, r8, r9, none], rfl, ?_, ps ++ qs, _, _, _, _, _, _, _, _, rfl, by simp [hl1, hql]; omega, fun p h => ?_⟩
      · simp -implicitDefEqProofs only [b_law_1, eexs_cons, eexs_nil, q_law_1_0, eev_cst, eev_var, eev_tupD, eev_lstD, eev_dic0, eev_bin, eev_neg, eev_cmp, eev_isN, eev_chn, eev_notE, eev_andE, eev_orE, eev_ite, eev_sub, eev_slc, eev_rev, eev_call, eev_bi, eev_isi, eev_lc, eev_dc, eev_sortK, eevs_nil, eevs_cons, eevO_no, eevO_so, eevT_tru, eevT_nt, eevT_an, eevT_or, eevL_ex, eevL_rng1, eevL_rng2, eevL_zip, eex_set, eex_par, eex_setI, eex_app, eex_exp, eex_ifs, eex_fr, eex_ret, eex_retN, eex_never, eexs_nil, eexs_cons, vmk_var, vmk_cst, vmk_tupD, vmk_lstD, vmk_dic0, vmk_bin, vmk_neg, vmk_cmp, vmk_isN, vmk_chn, vmk_notE, vmk_andE, vmk_orE, vmk_ite, vmk_sub, vmk_slc, vmk_rev, vmk_call, vmk_bi, vmk_isi, vmk_lc, vmk_dc, vmk_sortK, vbd_ok, vbd_st, vts_ok, vsq_nx, vsq_rt, vnx_ok, voO_some, vb1_bl, vgt_val, vgt_slot, vgs_nil, vgs_cons, vrv_, vso_nil, vso_val, vso_slot, vo1_, vo2_, voN_, voL_, vsu_, vag_nm, vag_tp, vsa_nil, vsa_cons, vwp_nil, vwp_cons, vbk_nil, vbk_cons, var_nil, var_val, var_slot, var_mut, vbo_nil, vbo_false, vbo_true, vpm_nil, vpm_cons, vco_, vevTo_no, vevTo_so, vsp_, vil_, vap_, vou_nil, vou_false, vou_true, vsh_tup, vsh_int, vsh_bl, vsh_non, vsh_str, vsh_frl, vsh_lst, vsh_dic, vsr_tup, vsr_int, vsr_bl, vsr_non, vsr_str, vsr_frl, vsr_lstF, vsr_lstT, vsr_dicF, vsr_dicT, vss_int, vss_nil, vss_cons, vbn_add, vbn_sub, vbn_mul, vbn_pow, vbn_mod, vbn_div, vbn_tup, vbn_lst, vcm_lt, vcm_le, vcm_gt, vcm_ge, vcm_eq, vcm_ne, vcm_eqB, vcm_neB, vcm_in, vcm_notin, vcm_eqT, vcm_neT, vcm_eqL, vcm_neL, vtr_bl, vtr_int, vtr_tup, vtr_lst, vtr_non, vno_, vng_, viN_non, viN_tup, viN_int, viN_bl, viN_str, viN_lst, viN_dic, vii_int, vii_bool, vii_str, vii_tuple, vii_list, vii_dict, vty_non, vty_bl, vty_int, vty_str, vty_tup, vty_lst, vty_frl, vty_dic, vbi_lenT, vbi_lenL, vbi_lenF, vbi_lenD, vbi_abs, vbi_intI, vbi_intB, vbi_max2, vbi_min2, vbi_maxL, vbi_minL, vbi_sum, vbi_all, vbi_any, vbi_listT, vbi_listL, vbi_tupT, vbi_tupL, vbi_sortL, vbi_sortD, vwk_tup, vwk_lst, vr1_, vr2_, vzp_tt, vzp_ll, vsb_tup, vsb_lst, vsb_frl, vsb_dic, vsl_tup, vsl_lst, vrv_lst, vsk_abs, vjn_s, vsg_, vcx_cl, vfi_rt, vfi_nx, List.getElem?_cons_zero, List.getElem?_cons_succ, List.set_cons_zero, List.set_cons_succ, Option.map_some, Option.map_none, Option.bind_some, List.length_cons, List.length_nil, Nat.reduceAdd, Nat.reduceLT, Nat.reduceSub, reduceIte, Bool.not_true, Bool.not_false, Bool.and_true, Bool.true_and, Bool.and_false, Bool.false_and, Bool.or_true, Bool.true_or, Bool.or_false, Bool.false_or, vcx_sg, Bool.false_eq_true, if_false, if_true, List.nil_append, String.reduceBEq, String.reduceEq, t__law_bag, g__law_bag, eb, ei, List.map_append]
      · rcases List.mem_append.mp h with h | h
        · exact hok p h
        · exact hqk p h)
  obtain ⟨ρ2, e2, q4, q5, q6, q7, q8, q9, q10, q11, q12, rfl⟩ := forL_inv (tg := .tp [5, 6, 7]) (body := exs (cxT tab 19) b_law_2) IT (fun ρ => ∃ (o2 o3 o4 o5 o6 o7 o8 o9 o10 : Option D), ρ = [some (.frl ns), some (.lst true (ps.map IT)), o2, o3, o4, o5, o6, o7, o8, o9, o10]) ps.reverse [some (.frl ns), some (.lst true (ps.map IT)), p2, p3, p4, p5, p6, p7, p8, p9, none] ⟨_, _, _, _, _, _, _, _, _, rfl⟩ (by
    rintro p hpm ρ ⟨o2, o3, o4, o5, o6, o7, o8, o9, o10, rfl⟩
    have k := hok p (List.mem_reverse.mp hpm)
    have s := k.sm 17
    refine ⟨_, [some (.frl ns), some (.lst true (ps.map IT)), o2, o3, o4, some (T p.1), some (T p.2), some (RD p.1 p.2), o8, o9, o10], rfl, ?_, _, _, _, _, _, _, _, _, _, rfl⟩
    simp -implicitDefEqProofs only [b_law_2, q_law_2_0, eev_cst, eev_var, eev_tupD, eev_lstD, eev_dic0, eev_bin, eev_neg, eev_cmp, eev_isN, eev_chn, eev_notE, eev_andE, eev_orE, eev_ite, eev_sub, eev_slc, eev_rev, eev_call, eev_bi, eev_isi, eev_lc, eev_dc, eev_sortK, eevs_nil, eevs_cons, eevO_no, eevO_so, eevT_tru, eevT_nt, eevT_an, eevT_or, eevL_ex, eevL_rng1, eevL_rng2, eevL_zip, eex_set, eex_par, eex_setI, eex_app, eex_exp, eex_ifs, eex_fr, eex_ret, eex_retN, eex_never, eexs_nil, eexs_cons, vmk_var, vmk_cst, vmk_tupD, vmk_lstD, vmk_dic0, vmk_bin, vmk_neg, vmk_cmp, vmk_isN, vmk_chn, vmk_notE, vmk_andE, vmk_orE, vmk_ite, vmk_sub, vmk_slc, vmk_rev, vmk_call, vmk_bi, vmk_isi, vmk_lc, vmk_dc, vmk_sortK, vbd_ok, vbd_st, vts_ok, vsq_nx, vsq_rt, vnx_ok, voO_some, vb1_bl, vgt_val, vgt_slot, vgs_nil, vgs_cons, vrv_, vso_nil, vso_val, vso_slot, vo1_, vo2_, voN_, voL_, vsu_, vag_nm, vag_tp, vsa_nil, vsa_cons, vwp_nil, vwp_cons, vbk_nil, vbk_cons, var_nil, var_val, var_slot, var_mut, vbo_nil, vbo_false, vbo_true, vpm_nil, vpm_cons, vco_, vevTo_no, vevTo_so, vsp_, vil_, vap_, vou_nil, vou_false, vou_true, vsh_tup, vsh_int, vsh_bl, vsh_non, vsh_str, vsh_frl, vsh_lst, vsh_dic, vsr_tup, vsr_int, vsr_bl, vsr_non, vsr_str, vsr_frl, vsr_lstF, vsr_lstT, vsr_dicF, vsr_dicT, vss_int, vss_nil, vss_cons, vbn_add, vbn_sub, vbn_mul, vbn_pow, vbn_mod, vbn_div, vbn_tup, vbn_lst, vcm_lt, vcm_le, vcm_gt, vcm_ge, vcm_eq, vcm_ne, vcm_eqB, vcm_neB, vcm_in, vcm_notin, vcm_eqT, vcm_neT, vcm_eqL, vcm_neL, vtr_bl, vtr_int, vtr_tup, vtr_lst, vtr_non, vno_, vng_, viN_non, viN_tup, viN_int, viN_bl, viN_str, viN_lst, viN_dic, vii_int, vii_bool, vii_str, vii_tuple, vii_list, vii_dict, vty_non, vty_bl, vty_int, vty_str, vty_tup, vty_lst, vty_frl, vty_dic, vbi_lenT, vbi_lenL, vbi_lenF, vbi_lenD, vbi_abs, vbi_intI, vbi_intB, vbi_max2, vbi_min2, vbi_maxL, vbi_minL, vbi_sum, vbi_all, vbi_any, vbi_listT, vbi_listL, vbi_tupT, vbi_tupL, vbi_sortL, vbi_sortD, vwk_tup, vwk_lst, vr1_, vr2_, vzp_tt, vzp_ll, vsb_tup, vsb_lst, vsb_frl, vsb_dic, vsl_tup, vsl_lst, vrv_lst, vsk_abs, vjn_s, vsg_, vcx_cl, vfi_rt, vfi_nx, List.getElem?_cons_zero, List.getElem?_cons_succ, List.set_cons_zero, List.set_cons_succ, Option.map_some, Option.map_none, Option.bind_some, List.length_cons, List.length_nil, Nat.reduceAdd, Nat.reduceLT, Nat.reduceSub, reduceIte, Bool.not_true, Bool.not_false, Bool.and_true, Bool.true_and, Bool.and_false, Bool.false_and, Bool.or_true, Bool.true_or, Bool.or_false, Bool.false_or, vcx_sg, Bool.false_eq_true, if_false, if_true, List.nil_append, String.reduceBEq, String.reduceEq, t_resolved, g_resolved, k.r1 14, s.s1, s.s2, t__law_same, g__law_same, s.ok])
  have hsh : (ps.map IT).all shd = true := all_shd _ (fun _ => rfl) _
  have r := rngD_to (N := N) (by omega) (by omega)
  have hrev : (ps.map IT).reverse = ps.reverse.map IT := by rw [List.map_reverse]
  simp -implicitDefEqProofs (disch := omega) only [vsz_, c_law, b_law, q_law_0, q_law_1, q_law_2, q_law_3, eev_cst, eev_var, eev_tupD, eev_lstD, eev_dic0, eev_bin, eev_neg, eev_cmp, eev_isN, eev_chn, eev_notE, eev_andE, eev_orE, eev_ite, eev_sub, eev_slc, eev_rev, eev_call, eev_bi, eev_isi, eev_lc, eev_dc, eev_sortK, eevs_nil, eevs_cons, eevO_no, eevO_so, eevT_tru, eevT_nt, eevT_an, eevT_or, eevL_ex, eevL_rng1, eevL_rng2, eevL_zip, eex_set, eex_par, eex_setI, eex_app, eex_exp, eex_ifs, eex_fr, eex_ret, eex_retN, eex_never, eexs_nil, eexs_cons, vmk_var, vmk_cst, vmk_tupD, vmk_lstD, vmk_dic0, vmk_bin, vmk_neg, vmk_cmp, vmk_isN, vmk_chn, vmk_notE, vmk_andE, vmk_orE, vmk_ite, vmk_sub, vmk_slc, vmk_rev, vmk_call, vmk_bi, vmk_isi, vmk_lc, vmk_dc, vmk_sortK, vbd_ok, vbd_st, vts_ok, vsq_nx, vsq_rt, vnx_ok, voO_some, vb1_bl, vgt_val, vgt_slot, vgs_nil, vgs_cons, vrv_, vso_nil, vso_val, vso_slot, vo1_, vo2_, voN_, voL_, vsu_, vag_nm, vag_tp, vsa_nil, vsa_cons, vwp_nil, vwp_cons, vbk_nil, vbk_cons, var_nil, var_val, var_slot, var_mut, vbo_nil, vbo_false, vbo_true, vpm_nil, vpm_cons, vco_, vevTo_no, vevTo_so, vsp_, vil_, vap_, vou_nil, vou_false, vou_true, vsh_tup, vsh_int, vsh_bl, vsh_non, vsh_str, vsh_frl, vsh_lst, vsh_dic, vsr_tup, vsr_int, vsr_bl, vsr_non, vsr_str, vsr_frl, vsr_lstF, vsr_lstT, vsr_dicF, vsr_dicT, vss_int, vss_nil, vss_cons, vbn_add, vbn_sub, vbn_mul, vbn_pow, vbn_mod, vbn_div, vbn_tup, vbn_lst, vcm_lt, vcm_le, vcm_gt, vcm_ge, vcm_eq, vcm_ne, vcm_eqB, vcm_neB, vcm_in, vcm_notin, vcm_eqT, vcm_neT, vcm_eqL, vcm_neL, vtr_bl, vtr_int, vtr_tup, vtr_lst, vtr_non, vno_, vng_, viN_non, viN_tup, viN_int, viN_bl, viN_str, viN_lst, viN_dic, vii_int, vii_bool, vii_str, vii_tuple, vii_list, vii_dict, vty_non, vty_bl, vty_int, vty_str, vty_tup, vty_lst, vty_frl, vty_dic, vbi_lenT, vbi_lenL, vbi_lenF, vbi_lenD, vbi_abs, vbi_intI, vbi_intB, vbi_max2, vbi_min2, vbi_maxL, vbi_minL, vbi_sum, vbi_all, vbi_any, vbi_listT, vbi_listL, vbi_tupT, vbi_tupL, vbi_sortL, vbi_sortD, vwk_tup, vwk_lst, vr1_, vr2_, vzp_tt, vzp_ll, vsb_tup, vsb_lst, vsb_frl, vsb_dic, vsl_tup, vsl_lst, vrv_lst, vsk_abs, vjn_s, vsg_, vcx_cl, vfi_rt, vfi_nx, List.getElem?_cons_zero, List.getElem?_cons_succ, List.set_cons_zero, List.set_cons_succ, Option.map_some, Option.map_none, Option.bind_some, List.length_cons, List.length_nil, Nat.reduceAdd, Nat.reduceLT, Nat.reduceSub, reduceIte, Bool.not_true, Bool.not_false, Bool.and_true, Bool.true_and, Bool.and_false, Bool.false_and, Bool.or_true, Bool.true_or, Bool.or_false, Bool.false_or, vcx_sg, Bool.false_eq_true, if_false, if_true, List.nil_append, String.reduceBEq, String.reduceEq, hN, r, e, hsh, hrev, shares_it, e2]
end KLaw
open PySem PySem.W PyProof.Rows
set_option maxRecDepth 100000 in
set_option maxHeartbeats 0 in
theorem PySem.Challenge.cw_wholetruths_k77_whole_clauses_resolved_holds : PySem.Challenge.rw_wholetruths_k77_whole_clauses_resolved.Holds := by
  w_on; o_law; k_head; (case hw => w_witness2)
  k_fill
  refine DE.walk (l := PySem.Challenge.rw_wholetruths_k77_whole_clauses_resolved) (tab := KLaw.tab) rfl rfl (fun w h Y => PySem.W.kIn_of Y) ?F KLaw.math
  case F =>
    intro w mg fa h KX G hmg
    refine' KLaw.head KX G hmg (DE.blt_none KX G ?z0 ?z1 ?z2 ?z3 ?z4 ?z5 ?z6 ?z7 ?z8 ?z9 ?z10 ?z11 ?z12 ?z13 ?z14 ?z15 ?z16) ?dis_integer ?dis_literal ?dis_clause_of ?dmade_of ?dcheck_many ?dis_clause ?dcheck_any_clause ?dresolved ?d_law_bag ?d_law_take ?d_law_same ?d_law_rows ?d_law_clause ?d_law_holds ?d_law_made ?d_law_follows_right ?d_law_odd ?dlaw
    (case z0 => k_is)
    (case z1 => k_is)
    (case z2 => k_is)
    (case z3 => k_is)
    (case z4 => k_is)
    (case z5 => k_is)
    (case z6 => k_is)
    (case z7 => k_is)
    (case z8 => k_is)
    (case z9 => k_is)
    (case z10 => k_is)
    (case z11 => k_is)
    (case z12 => k_is)
    (case z13 => k_is)
    (case z14 => k_is)
    (case z15 => k_is)
    (case z16 => k_is)
    (case dis_integer => (refine' DE.def_mk KX G ?a ?l ?c ?k; (case a => k_is); (case l => k_is); (case c => k_is); (case k => k_is)))
    (case dis_literal => (refine' DE.def_mk KX G ?a ?l ?c ?k; (case a => k_is); (case l => k_is); (case c => k_is); (case k => k_is)))
    (case dis_clause_of => (refine' DE.def_mk KX G ?a ?l ?c ?k; (case a => k_is); (case l => k_is); (case c => k_is); (case k => k_is)))
    (case dmade_of => (refine' DE.def_mk KX G ?a ?l ?c ?k; (case a => k_is); (case l => k_is); (case c => k_is); (case k => k_is)))
    (case dcheck_many => (refine' DE.def_mk KX G ?a ?l ?c ?k; (case a => k_is); (case l => k_is); (case c => k_is); (case k => k_is)))
    (case dis_clause => (refine' DE.def_mk KX G ?a ?l ?c ?k; (case a => k_is); (case l => k_is); (case c => k_is); (case k => k_is)))
    (case dcheck_any_clause => (refine' DE.def_mk KX G ?a ?l ?c ?k; (case a => k_is); (case l => k_is); (case c => k_is); (case k => k_is)))
    (case dresolved => (refine' DE.def_mk KX G ?a ?l ?c ?k; (case a => k_is); (case l => k_is); (case c => k_is); (case k => k_is)))
    (case d_law_bag => (refine' DE.def_mk KX G ?a ?l ?c ?k; (case a => k_is); (case l => k_is); (case c => k_is); (case k => k_is)))
    (case d_law_take => (refine' DE.def_mk KX G ?a ?l ?c ?k; (case a => k_is); (case l => k_is); (case c => k_is); (case k => k_is)))
    (case d_law_same => (refine' DE.def_mk KX G ?a ?l ?c ?k; (case a => k_is); (case l => k_is); (case c => k_is); (case k => k_is)))
    (case d_law_rows => (refine' DE.def_mk KX G ?a ?l ?c ?k; (case a => k_is); (case l => k_is); (case c => k_is); (case k => k_is)))
    (case d_law_clause => (refine' DE.def_mk KX G ?a ?l ?c ?k; (case a => k_is); (case l => k_is); (case c => k_is); (case k => k_is)))
    (case d_law_holds => (refine' DE.def_mk KX G ?a ?l ?c ?k; (case a => k_is); (case l => k_is); (case c => k_is); (case k => k_is)))
    (case d_law_made => (refine' DE.def_mk KX G ?a ?l ?c ?k; (case a => k_is); (case l => k_is); (case c => k_is); (case k => k_is)))
    (case d_law_follows_right => (refine' DE.def_mk KX G ?a ?l ?c ?k; (case a => k_is); (case l => k_is); (case c => k_is); (case k => k_is)))
    (case d_law_odd => (refine' DE.def_mk KX G ?a ?l ?c ?k; (case a => k_is); (case l => k_is); (case c => k_is); (case k => k_is)))
    (case dlaw => (refine' DE.def_mk KX G ?a ?l ?c ?k; (case a => k_is); (case l => k_is); (case c => k_is); (case k => k_is)))
