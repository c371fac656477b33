import PyProof.Rows.All
import Wide.All
import OpenK.AllK
import Wide.FinOn
import HandS.ForMost
import HandS.Walk
import HandS.DictComp
import HandS.Star
import HandS.ClsMeth
import HandS.Property
import HandS.Wide
import HandS.IsInst
import HandS.OwnEq
import HandS.SetKeys
import HandS.TupSets
import HandS.Zip
import HandS.Flow
import HandS.Conv
import HandS.NoneIn
import HandS.RevRange
import PySem.Challenge.RW_crateround_k29_whole_loans
import HandS.Set
import HandS.SetFor
import HandS.Strs
import HandS.More
import KE.KOpsOwn
import HandS.Small
import HandS.Zip0
import KE.KDictList
import HandS.TupLe
import HandS.HeadHook1
import HandS.Base
import HandS.Call
import HandS.Ends
import HandS.Words
import HandS.WordsExc
import HandS.Defaults
import HandS.Head0
import HandS.Head1
import HandS.Head2
import HandS.HeadEnd
/-! text Y0 -/
set_option Elab.async false
set_option linter.all false
set_option maxRecDepth 100000
/-! A typed logic over the hand layer: slots bear predicates, a pure heap stands within the real one, mutable cells apart. -/
namespace Y
open PySem PySem.Spec PyProof.Rows L2

abbrev St := L2.St
/-! ### pure heaps -/
/-- all of H0 stands in H; the dicts at L are locked -/
structure Sub (L : List Addr) (H0 H : Hp) : Prop where
  at_ : ∀ a u, H0 a = some u → (a ∉ L ∧ H a = some u) ∨ (a ∈ L ∧ ∃ o kvs, u = .dK kvs ∧ H a = some (.frz o u))
  lk : ∀ a ∈ L, H0 a ≠ none
theorem Sub.is {L : List Addr} {H0 H : Hp} (s : Sub L H0 H) {a : Addr} {u : HO} (h : H0 a = some u) : H a ≠ none := fun q => by
  rcases s.at_ a u h with ⟨_, z⟩ | ⟨_, _, _, _, z⟩ <;> rw [q] at z <;> cases z
theorem Sub.no {L : List Addr} {H0 H : Hp} (s : Sub L H0 H) {a : Addr} (h : H a = none) : H0 a = none := by
  cases q : H0 a with
  | none => rfl
  | some u => exact absurd h (s.is q)
theorem Sub.ex {L : List Addr} {H0 H : Hp} (s : Sub L H0 H) {a : Addr} {u : HO} (h : H0 a = some u) (ha : a ∉ L) : H a = some u := by
  rcases s.at_ a u h with ⟨_, z⟩ | ⟨z, _⟩
  · exact z
  · exact absurd z ha
theorem Sub.lkd {L : List Addr} {H0 H : Hp} (s : Sub L H0 H) {a : Addr} {u : HO} (h : H0 a = some u) (ha : a ∈ L) : ∃ o, H a = some (.frz o u) := by
  rcases s.at_ a u h with ⟨z, _⟩ | ⟨_, o, _, _, z⟩
  · exact absurd ha z
  · exact ⟨o, z⟩
theorem Sub.lst {L : List Addr} {H0 H : Hp} (s : Sub L H0 H) {a : Addr} {xs : List V} (h : H0 a = some (.lst xs)) : H a = some (.lst xs) := by
  rcases s.at_ a _ h with ⟨_, z⟩ | ⟨_, _, _, z, _⟩
  · exact z
  · cases z
theorem Sub.tup {L : List Addr} {H0 H : Hp} (s : Sub L H0 H) {a : Addr} {xs : List V} (h : H0 a = some (.tup xs)) : H a = some (.tup xs) := by
  rcases s.at_ a _ h with ⟨_, z⟩ | ⟨_, _, _, z, _⟩
  · exact z
  · cases z
theorem Sub.ins {L : List Addr} {H0 H : Hp} (s : Sub L H0 H) {a C dx : Addr} {fs : List (Str × V)} (h : H0 a = some (.ins C dx fs)) : H a = some (.ins C dx fs) := by
  rcases s.at_ a _ h with ⟨_, z⟩ | ⟨_, _, _, z, _⟩
  · exact z
  · cases z

structure VP where
  p : V → Hp → Prop
  mono : ∀ v H H', Same H H' → p v H → p v H'
structure CP where
  p : HO → Hp → Prop
  mono : ∀ o H H', Same H H' → p o H → p o H'

def AllP (H : Hp) : List V → List VP → Prop
  | [], [] => True
  | v :: vs, P :: Ps => P.p v H ∧ AllP H vs Ps
  | _, _ => False
theorem AllP.len {H : Hp} : ∀ {vs : List V} {Ps : List VP}, AllP H vs Ps → vs.length = Ps.length
  | [], [], _ => rfl
  | [], _ :: _, h => h.elim
  | _ :: _, [], h => h.elim
  | _ :: vs, _ :: Ps, h => congrArg Nat.succ (AllP.len (vs := vs) (Ps := Ps) h.2)
theorem AllP.mono {H H' : Hp} (e : Same H H') : ∀ {vs : List V} {Ps : List VP}, AllP H vs Ps → AllP H' vs Ps
  | [], [], _ => trivial
  | [], _ :: _, h => h.elim
  | _ :: _, [], h => h.elim
  | v :: vs, P :: Ps, h => ⟨P.mono v H H' e h.1, AllP.mono e (vs := vs) (Ps := Ps) h.2⟩
theorem AllP.get {H : Hp} : ∀ {vs : List V} {Ps : List VP} {i : Nat} {P : VP}, AllP H vs Ps → Ps[i]? = some P → ∃ v, vs[i]? = some v ∧ P.p v H
  | [], [], _, _, _, e => by simp at e
  | [], _ :: _, _, _, h, _ => h.elim
  | _ :: _, [], _, _, h, _ => h.elim
  | v :: vs, Q :: Ps, 0, P, h, e => by
    simp at e
    subst e
    exact ⟨v, rfl, h.1⟩
  | v :: vs, Q :: Ps, i + 1, P, h, e => by
    obtain ⟨u, a, b⟩ := AllP.get (vs := vs) (Ps := Ps) (i := i) (P := P) h.2 (by simpa using e)
    exact ⟨u, by simpa using a, b⟩
theorem AllP.get' {H : Hp} : ∀ {vs : List V} {Ps : List VP} {i : Nat} {v : V}, AllP H vs Ps → vs[i]? = some v → ∃ P, Ps[i]? = some P ∧ P.p v H
  | [], [], _, _, _, e => by simp at e
  | [], _ :: _, _, _, h, _ => h.elim
  | _ :: _, [], _, _, h, _ => h.elim
  | v :: vs, Q :: Ps, 0, P, h, e => by
    simp at e
    subst e
    exact ⟨Q, rfl, h.1⟩
  | v :: vs, Q :: Ps, i + 1, P, h, e => by
    obtain ⟨u, a, b⟩ := AllP.get' (vs := vs) (Ps := Ps) (i := i) (v := P) h.2 (by simpa using e)
    exact ⟨u, by simpa using a, b⟩
theorem AllP.app {H : Hp} : ∀ {vs : List V} {Ps : List VP} {ws : List V} {Qs : List VP}, AllP H vs Ps → AllP H ws Qs → AllP H (vs ++ ws) (Ps ++ Qs)
  | [], [], _, _, _, h => h
  | [], _ :: _, _, _, h, _ => h.elim
  | _ :: _, [], _, _, h, _ => h.elim
  | v :: vs, P :: Ps, _, _, h, g => ⟨h.1, AllP.app (vs := vs) (Ps := Ps) h.2 g⟩
theorem AllP.one {H : Hp} {v : V} {P : VP} (h : P.p v H) : AllP H [v] [P] := ⟨h, trivial⟩
theorem AllP.set {H : Hp} {v : V} {P : VP} (h : P.p v H) : ∀ {vs : List V} {Ps : List VP} (i : Nat), AllP H vs Ps → AllP H (vs.set i v) (Ps.set i P)
  | [], [], _, _ => trivial
  | [], _ :: _, _, g => g.elim
  | _ :: _, [], _, g => g.elim
  | _ :: vs, _ :: Ps, 0, g => ⟨h, g.2⟩
  | _ :: vs, _ :: Ps, i + 1, g => ⟨g.1, AllP.set h (vs := vs) (Ps := Ps) i g.2⟩
theorem AllP.take {H : Hp} : ∀ {vs : List V} {Ps : List VP} (n : Nat), AllP H vs Ps → AllP H (vs.take n) (Ps.take n)
  | [], [], 0, _ => trivial
  | [], [], _ + 1, _ => trivial
  | [], _ :: _, _, g => g.elim
  | _ :: _, [], _, g => g.elim
  | _ :: vs, _ :: Ps, 0, g => trivial
  | _ :: vs, _ :: Ps, n + 1, g => ⟨g.1, AllP.take (vs := vs) (Ps := Ps) n g.2⟩
theorem AllP.drop {H : Hp} : ∀ {vs : List V} {Ps : List VP} (n : Nat), AllP H vs Ps → AllP H (vs.drop n) (Ps.drop n)
  | [], [], 0, _ => trivial
  | [], [], _ + 1, _ => trivial
  | [], _ :: _, _, g => g.elim
  | _ :: _, [], _, g => g.elim
  | _ :: vs, _ :: Ps, 0, g => g
  | _ :: vs, _ :: Ps, n + 1, g => AllP.drop (vs := vs) (Ps := Ps) n g.2
/-- a list of known values -/
def Vl (x : V) : VP := ⟨fun v _ => v = x, fun _ _ _ _ h => h⟩
theorem AllP.vl {H : Hp} : ∀ {vs : List V} {xs : List V}, AllP H vs (xs.map Vl) → vs = xs
  | [], [], _ => rfl
  | [], _ :: _, h => h.elim
  | _ :: _, [], h => h.elim
  | v :: vs, x :: xs, h => by
    have e1 : v = x := h.1
    have e2 := AllP.vl (vs := vs) (xs := xs) h.2
    rw [e1, e2]
theorem AllP.ofVl {H : Hp} : ∀ {xs : List V}, AllP H xs (xs.map Vl)
  | [] => trivial
  | x :: xs => ⟨rfl, AllP.ofVl (xs := xs)⟩
theorem AllP.imp {H H' : Hp} {α : Type} {R S : α → VP} (h : ∀ x v, (R x).p v H → (S x).p v H') : ∀ {vs : List V} {xs : List α}, AllP H vs (xs.map R) → AllP H' vs (xs.map S)
  | [], [], _ => trivial
  | [], _ :: _, g => g.elim
  | _ :: _, [], g => g.elim
  | v :: vs, x :: xs, g => ⟨h x v g.1, AllP.imp h (vs := vs) (xs := xs) g.2⟩

/-! ### slots -/
abbrev Gam := List (Option VP)
def SL (G : Gam) (σ : St) (H : Hp) : Prop := σ.length = G.length ∧ ∀ (i : Nat) P, G[i]? = some (some P) → ∃ v, σ[i]? = some (some v) ∧ P.p v H
theorem SL.mono {G : Gam} {σ : St} {H H' : Hp} (e : Same H H') (h : SL G σ H) : SL G σ H' := ⟨h.1, fun i P q => by
  obtain ⟨v, a, b⟩ := h.2 i P q
  exact ⟨v, a, P.mono v H H' e b⟩⟩
theorem SL.set {G : Gam} {σ : St} {H : Hp} {i : Nat} {v : V} {P : VP} (h : SL G σ H) (hp : P.p v H) : SL (G.set i (some P)) (σ.set i (some v)) H := by
  refine ⟨by rw [List.length_set, List.length_set, h.1], fun j Q q => ?_⟩
  rw [List.getElem?_set] at q
  split at q
  · rename_i e
    subst e
    split at q
    · rename_i hl
      have eq : P = Q := Option.some.inj (Option.some.inj q)
      subst eq
      exact ⟨v, by rw [List.getElem?_set_self (by rw [h.1]; exact hl)], hp⟩
    · cases q
  · rename_i e
    obtain ⟨w, a, b⟩ := h.2 j Q q
    exact ⟨w, by rw [List.getElem?_set_ne e]; exact a, b⟩
/-- slots forgotten, weakened -/
theorem SL.weak {G G' : Gam} {σ : St} {H : Hp} (h : SL G σ H) (hl : G'.length = G.length) (hw : ∀ (i : Nat) P, G'[i]? = some (some P) → ∃ P', G[i]? = some (some P') ∧ ∀ v, P'.p v H → P.p v H) : SL G' σ H :=
  ⟨h.1.trans hl.symm, fun i P q => by
    obtain ⟨P', a, b⟩ := hw i P q
    obtain ⟨v, c, d⟩ := h.2 i P' a
    exact ⟨v, c, b v d⟩⟩

/-! ### mutable cells -/
abbrev Ml := List (Addr × CP)
def ads (M : Ml) : List Addr := M.map (·.1)
def MO (M : Ml) (H0 H : Hp) : Prop := (ads M).Nodup ∧ ∀ c ∈ M, H0 c.1 = none ∧ ∃ o, H c.1 = some o ∧ c.2.p o H0
theorem MO.nil {H0 H : Hp} : MO [] H0 H := ⟨List.nodup_nil, fun _ h => by cases h⟩
theorem MO.at_ {M : Ml} {H0 H : Hp} (h : MO M H0 H) {a : Addr} (ha : a ∈ ads M) : H0 a = none ∧ H a ≠ none := by
  obtain ⟨c, hc, e⟩ := List.mem_map.mp ha
  obtain ⟨h1, o, h2, _⟩ := h.2 c hc
  subst e
  exact ⟨h1, by rw [h2]; simp⟩

structure Grow (L : List Addr) (A : List Addr) (H0 H H0' H' : Hp) : Prop where
  pure : Same H0 H0'
  sub : Sub L H0' H'
  keep : ∀ b o, H b = some o → b ∉ A → H' b = some o
  new : ∀ b, H0' b ≠ none → H0 b ≠ none ∨ H b = none
  live : ∀ b, H b ≠ none → H' b ≠ none
theorem Grow.refl {L A : List Addr} {H0 H : Hp} (s : Sub L H0 H) : Grow L A H0 H H0 H := ⟨Same.refl _, s, fun _ _ h _ => h, fun _ h => .inl h, fun _ h => h⟩
theorem Grow.trans {L A A' : List Addr} {H0 H H1 H' H2 H'' : Hp} (g : Grow L A H0 H H1 H') (g' : Grow L A' H1 H' H2 H'') (ha : ∀ b ∈ A', b ∈ A ∨ H b = none) : Grow L A H0 H H2 H'' := by
  refine ⟨g.pure.trans g'.pure, g'.sub, fun b o e nb => ?_, fun b nb => ?_, fun b nb => g'.live b (g.live b nb)⟩
  · refine g'.keep b o (g.keep b o e nb) fun hb => ?_
    rcases ha b hb with z | z
    · exact nb z
    · rw [e] at z
      cases z
  · rcases g'.new b nb with z | z
    · exact g.new b z
    · refine .inr ?_
      cases q : H b with
      | none => rfl
      | some o => exact absurd z (g.live b (by rw [q]; simp))
theorem Grow.tr {L A : List Addr} {H0 H H1 H' H2 H'' : Hp} (g : Grow L A H0 H H1 H') (g' : Grow L A H1 H' H2 H'') : Grow L A H0 H H2 H'' := g.trans g' fun _ h => .inl h
theorem Grow.wide {L A A' : List Addr} {H0 H H1 H' : Hp} (g : Grow L A H0 H H1 H') (h : ∀ b ∈ A, b ∈ A') : Grow L A' H0 H H1 H' := ⟨g.pure, g.sub, fun b o e nb => g.keep b o e fun z => nb (h b z), g.new, g.live⟩
theorem Grow.nil {L A : List Addr} {H0 H H1 H' : Hp} (g : Grow L [] H0 H H1 H') : Grow L A H0 H H1 H' := g.wide fun _ h => by cases h
theorem Grow.alloc {L A : List Addr} {H0 H : Hp} {p : Addr} {o : HO} (s : Sub L H0 H) (hp : H p = none) : Grow L A H0 H (upd H0 p o) (upd H p o) := by
  have h0 := s.no hp
  have hl : p ∉ L := fun z => s.lk p z h0
  refine ⟨fun b u e => ?_, ⟨fun a u e => ?_, fun a ha => ?_⟩, fun b u e _ => ?_, fun b nb => ?_, fun b nb => ?_⟩
  · rw [upd_ne (ne_of_none e h0)]
    exact e
  · by_cases q : a = p
    · subst q
      rw [upd_same] at e ⊢
      exact .inl ⟨hl, e⟩
    · rw [upd_ne q] at e ⊢
      exact s.at_ a u e
  · have q : a ≠ p := fun q => hl (by rw [← q]; exact ha)
    rw [upd_ne q]
    exact s.lk a ha
  · rw [upd_ne (ne_of_none e hp)]
    exact e
  · by_cases q : b = p
    · rw [q]
      exact .inr hp
    · rw [upd_ne q] at nb
      exact .inl nb
  · by_cases q : b = p
    · rw [q, upd_same]
      simp
    · rw [upd_ne q]
      exact nb
theorem MO.grow {L A : List Addr} {M : Ml} {H0 H H0' H' : Hp} (m : MO M H0 H) (g : Grow L A H0 H H0' H') (hd : ∀ a ∈ A, a ∉ ads M) : MO M H0' H' := by
  refine ⟨m.1, fun c hc => ?_⟩
  obtain ⟨h1, o, h2, h3⟩ := m.2 c hc
  refine ⟨?_, o, g.keep _ _ h2 fun z => hd _ z (List.mem_map.mpr ⟨c, hc, rfl⟩), c.2.mono _ _ _ g.pure h3⟩
  cases q : H0' c.1 with
  | none => rfl
  | some u =>
    rcases g.new c.1 (by rw [q]; simp) with z | z
    · exact absurd h1 z
    · rw [h2] at z
      cases z
theorem MO.grow0 {L : List Addr} {M : Ml} {H0 H H0' H' : Hp} (m : MO M H0 H) (g : Grow L [] H0 H H0' H') : MO M H0' H' := m.grow g fun _ h => by cases h

/-! ### the judgements, by the weakest reading of a piece of syntax -/
def tW (X : Cx) (e : Expr) : TE := fun σ H Q => ∀ pins s, Inv X pins σ H s → wpAny (model X.prog X.w) X.A (eval e X.env) (EP X pins σ Q) X.xe s
def tWt (X : Cx) (e : Expr) : TT := fun σ H Q => ∀ pins s, Inv X pins σ H s → wpAny (model X.prog X.w) X.A (isTrue e X.env (eval e X.env)) (TP X pins σ Q) X.xe s
def tWw (X : Cx) (e : Expr) : TT := fun σ H Q => ∀ (whole : Sem Value) pins s, Inv X pins σ H s → wpAny (model X.prog X.w) X.A (isTrue e X.env whole) (TP X pins σ Q) X.xe s
def tWa (X : Cx) (es : List Expr) : TA := fun σ H Q => ∀ pos pins s, Inv X pins σ H s → wpAny (model X.prog X.w) X.A (spliced (backTo pos (starEach es X.env))) (AP X pins σ Q) X.xe s
def tWs (X : Cx) (sts : List Stmt) : TS := fun D σ H => ∀ pins s, Inv X pins σ H s → wpAny (model X.prog X.w) X.A (execs sts X.env) (SP X pins D) X.xe s
def tW1 (X : Cx) (st : Stmt) : TS := fun D σ H => ∀ pins s, Inv X pins σ H s → wpAny (model X.prog X.w) X.A (exec st X.env) (SP X pins D) X.xe s
def tWg (X : Cx) (tg : Expr) : TG := fun v σ H Q => ∀ pins s u, Inv X pins σ H s → RelV v u → wpAny (model X.prog X.w) X.A (assign tg X.env u) (fun _ s' => ∃ σ' H', Inv X pins σ' H' s' ∧ Q σ' H') X.xe s
theorem pW {X : Cx} {e : Expr} : PE X e (tW X e) := ⟨fun pins s _ _ _ I h => h pins s I⟩
theorem pWt {X : Cx} {e : Expr} : PT X e (tWt X e) := ⟨fun pins s _ _ _ I h => h pins s I⟩
theorem pWw {X : Cx} {e : Expr} : PW X e (tWw X e) := ⟨fun w pins s _ _ _ I h => h w pins s I⟩
theorem pWa {X : Cx} {es : List Expr} : PA X es (tWa X es) := ⟨fun pos pins s _ _ _ I h => h pos pins s I⟩
theorem pWs {X : Cx} {sts : List Stmt} : PSs X sts (tWs X sts) := ⟨fun pins s _ _ _ I h => h pins s I⟩
theorem pW1 {X : Cx} {st : Stmt} : PS X st (tW1 X st) := ⟨fun pins s _ _ _ I h => h pins s I⟩
theorem pWg {X : Cx} {tg : Expr} : PG X tg (tWg X tg) := ⟨fun pins s _ _ _ u _ I r h => h pins s u I r⟩

/-- e gives a value of P, the cells M become M' -/
structure XE (X : Cx) (L : List Addr) (e : Expr) (G : Gam) (M : Ml) (P : VP) (M' : Ml) : Prop where
  ad : ads M' = ads M
  run : ∀ σ H H0, Sub L H0 H → SL G σ H0 → MO M H0 H → ∀ Q : VK, (∀ v H' H0', Grow L (ads M) H0 H H0' H' → MO M' H0' H' → P.p v H0' → Q v H') → tW X e σ H Q
structure XT (X : Cx) (L : List Addr) (e : Expr) (G : Gam) (M : Ml) (p : Bool → Prop) (M' : Ml) : Prop where
  ad : ads M' = ads M
  run : ∀ σ H H0, Sub L H0 H → SL G σ H0 → MO M H0 H → ∀ Q : Bool → Hp → Prop, (∀ b H' H0', Grow L (ads M) H0 H H0' H' → MO M' H0' H' → p b → Q b H') → tWt X e σ H Q
structure XW (X : Cx) (L : List Addr) (e : Expr) (G : Gam) (M : Ml) (p : Bool → Prop) (M' : Ml) : Prop where
  ad : ads M' = ads M
  run : ∀ σ H H0, Sub L H0 H → SL G σ H0 → MO M H0 H → ∀ Q : Bool → Hp → Prop, (∀ b H' H0', Grow L (ads M) H0 H H0' H' → MO M' H0' H' → p b → Q b H') → tWw X e σ H Q
structure XA (X : Cx) (L : List Addr) (es : List Expr) (G : Gam) (M : Ml) (Ps : List VP) (M' : Ml) : Prop where
  ad : ads M' = ads M
  run : ∀ σ H H0, Sub L H0 H → SL G σ H0 → MO M H0 H → ∀ Q : List V → Hp → Prop, (∀ vs H' H0', Grow L (ads M) H0 H H0' H' → MO M' H0' H' → AllP H0' vs Ps → Q vs H') → tWa X es σ H Q
/-- a target takes a value of P -/
structure XG (X : Cx) (L : List Addr) (tg : Expr) (P : VP) (G : Gam) (G' : Gam) : Prop where
  run : ∀ v σ H H0, Sub L H0 H → SL G σ H0 → P.p v H0 → ∀ Q : St → Hp → Prop, (∀ σ', SL G' σ' H0 → Q σ' H) → tWg X tg v σ H Q

section
variable {X : Cx} {L : List Addr} {e a b : Expr} {G : Gam} {M M1 M2 M' : Ml} {P P1 P2 P' : VP} {pos : Pos}
theorem XE.w (h : XE X L e G M P M') (hw : ∀ v H, P.p v H → P'.p v H) : XE X L e G M P' M' := ⟨h.ad, fun σ H H0 s l m Q k => h.run σ H H0 s l m Q fun v H' H0' g m' p => k v H' H0' g m' (hw v H0' p)⟩
theorem XE.mw (h : XE X L e G M P M') {M'' : Ml} (ha : ads M'' = ads M') (hw : ∀ H0 H, MO M' H0 H → MO M'' H0 H) : XE X L e G M P M'' := ⟨ha.trans h.ad, fun σ H H0 s l m Q k => h.run σ H H0 s l m Q fun v H' H0' g m' p => k v H' H0' g (hw _ _ m') p⟩
/-- from a rule of the layer -/
theorem XE.of {t : TE} (hp : PE X e t) (ad : ads M' = ads M) (h : ∀ σ H H0, Sub L H0 H → SL G σ H0 → MO M H0 H → ∀ Q : VK, (∀ v H' H0', Grow L (ads M) H0 H H0' H' → MO M' H0' H' → P.p v H0' → Q v H') → t σ H Q) : XE X L e G M P M' :=
  ⟨ad, fun σ H H0 s l m Q k pins sh I => hp.run pins sh σ H Q I (h σ H H0 s l m Q k)⟩
theorem XT.of {t : TT} {p : Bool → Prop} (hp : PT X e t) (ad : ads M' = ads M) (h : ∀ σ H H0, Sub L H0 H → SL G σ H0 → MO M H0 H → ∀ Q : Bool → Hp → Prop, (∀ b H' H0', Grow L (ads M) H0 H H0' H' → MO M' H0' H' → p b → Q b H') → t σ H Q) : XT X L e G M p M' :=
  ⟨ad, fun σ H H0 s l m Q k pins sh I => hp.run pins sh σ H Q I (h σ H H0 s l m Q k)⟩
theorem XW.of {t : TT} {p : Bool → Prop} (hp : PW X e t) (ad : ads M' = ads M) (h : ∀ σ H H0, Sub L H0 H → SL G σ H0 → MO M H0 H → ∀ Q : Bool → Hp → Prop, (∀ b H' H0', Grow L (ads M) H0 H H0' H' → MO M' H0' H' → p b → Q b H') → t σ H Q) : XW X L e G M p M' :=
  ⟨ad, fun σ H H0 s l m Q k whole pins sh I => hp.run whole pins sh σ H Q I (h σ H H0 s l m Q k)⟩
theorem XA.of {es : List Expr} {t : TA} {Ps : List VP} (hp : PA X es t) (ad : ads M' = ads M) (h : ∀ σ H H0, Sub L H0 H → SL G σ H0 → MO M H0 H → ∀ Q : List V → Hp → Prop, (∀ vs H' H0', Grow L (ads M) H0 H H0' H' → MO M' H0' H' → AllP H0' vs Ps → Q vs H') → t σ H Q) : XA X L es G M Ps M' :=
  ⟨ad, fun σ H H0 s l m Q k pos pins sh I => hp.run pos pins sh σ H Q I (h σ H H0 s l m Q k)⟩
theorem XT.w {p q : Bool → Prop} (h : XT X L e G M p M') (hw : ∀ b, p b → q b) : XT X L e G M q M' := ⟨h.ad, fun σ H H0 s l m Q k => h.run σ H H0 s l m Q fun v H' H0' g m' p => k v H' H0' g m' (hw v p)⟩
theorem XW.xt {p : Bool → Prop} (h : XW X L e G M p M') : XT X L e G M p M' := ⟨h.ad, fun σ H H0 s l m Q k pins sh I => h.run σ H H0 s l m Q k _ pins sh I⟩
/-- one after another -/
theorem XE.then_ {Q : V → Hp → Prop} (h : XE X L e G M P M1) {σ : St} {H H0 : Hp} (s : Sub L H0 H) (l : SL G σ H0) (m : MO M H0 H)
    (k : ∀ v H' H0', Grow L (ads M) H0 H H0' H' → Sub L H0' H' → SL G σ H0' → MO M1 H0' H' → P.p v H0' → Q v H') : tW X e σ H Q :=
  h.run σ H H0 s l m Q fun v H' H0' g m' p => k v H' H0' g g.sub (l.mono g.pure) m' p
theorem XE.then2 {Q : V → V → Hp → Prop} (h : XE X L a G M P1 M1) (h' : XE X L b G M1 P2 M2) {σ : St} {H H0 : Hp} (s : Sub L H0 H) (l : SL G σ H0) (m : MO M H0 H)
    (k : ∀ x y H' H0', Grow L (ads M) H0 H H0' H' → Sub L H0' H' → SL G σ H0' → MO M2 H0' H' → P1.p x H0' → P2.p y H0' → Q x y H') : tW X a σ H (fun x H1 => tW X b σ H1 (fun y H2 => Q x y H2)) :=
  h.then_ s l m fun x H1 H01 g1 s1 l1 m1 p1 => h'.then_ s1 l1 m1 fun y H2 H02 g2 s2 l2 m2 p2 => k x y H2 H02 (g1.tr (h.ad ▸ g2)) s2 l2 m2 (P1.mono _ _ _ g2.pure p1) p2
theorem XA.then_ {es : List Expr} {Ps : List VP} {Q : List V → Hp → Prop} (h : XA X L es G M Ps M1) {σ : St} {H H0 : Hp} (s : Sub L H0 H) (l : SL G σ H0) (m : MO M H0 H)
    (k : ∀ v H' H0', Grow L (ads M) H0 H H0' H' → Sub L H0' H' → SL G σ H0' → MO M1 H0' H' → AllP H0' v Ps → Q v H') : tWa X es σ H Q :=
  h.run σ H H0 s l m Q fun v H' H0' g m' p => k v H' H0' g g.sub (l.mono g.pure) m' p
theorem XT.then_ {p : Bool → Prop} {Q : Bool → Hp → Prop} (h : XT X L e G M p M1) {σ : St} {H H0 : Hp} (s : Sub L H0 H) (l : SL G σ H0) (m : MO M H0 H)
    (k : ∀ v H' H0', Grow L (ads M) H0 H H0' H' → Sub L H0' H' → SL G σ H0' → MO M1 H0' H' → p v → Q v H') : tWt X e σ H Q :=
  h.run σ H H0 s l m Q fun v H' H0' g m' p => k v H' H0' g g.sub (l.mono g.pure) m' p
theorem XW.then_ {p : Bool → Prop} {Q : Bool → Hp → Prop} (h : XW X L e G M p M1) {σ : St} {H H0 : Hp} (s : Sub L H0 H) (l : SL G σ H0) (m : MO M H0 H)
    (k : ∀ v H' H0', Grow L (ads M) H0 H H0' H' → Sub L H0' H' → SL G σ H0' → MO M1 H0' H' → p v → Q v H') : tWw X e σ H Q :=
  h.run σ H H0 s l m Q fun v H' H0' g m' p => k v H' H0' g g.sub (l.mono g.pure) m' p
end

/-! ### operations by values -/
def RV (L : List Addr) (r : R2) (P1 P2 P : VP) : Prop := ∀ x y H H0, Sub L H0 H → P1.p x H0 → P2.p y H0 → ∀ Q : VK, (∀ z H' H0', Grow L [] H0 H H0' H' → P.p z H0' → Q z H') → r x y H Q
def RU (L : List Addr) (r : V → Hp → VK → Prop) (P1 P : VP) : Prop := ∀ x H H0, Sub L H0 H → P1.p x H0 → ∀ Q : VK, (∀ z H' H0', Grow L [] H0 H H0' H' → P.p z H0' → Q z H') → r x H Q
def RC (L : List Addr) (r : List V → Hp → VK → Prop) (Ps : List VP) (P : VP) : Prop := ∀ xs H H0, Sub L H0 H → AllP H0 xs Ps → ∀ Q : VK, (∀ z H' H0', Grow L [] H0 H H0' H' → P.p z H0' → Q z H') → r xs H Q
/-- an int of which f holds -/
def II (f : Int → Prop) : VP := ⟨fun v _ => ∃ k, f k ∧ v = .int k, fun _ _ _ _ h => h⟩
def ExP {α : Type} (f : α → Prop) (P : α → VP) : VP := ⟨fun v H => ∃ x, f x ∧ (P x).p v H, fun v H H' e ⟨x, h, p⟩ => ⟨x, h, (P x).mono v H H' e p⟩⟩
def OrP (P P' : VP) : VP := ⟨fun v H => P.p v H ∨ P'.p v H, fun v H H' e h => h.elim (fun z => .inl (P.mono v H H' e z)) fun z => .inr (P'.mono v H H' e z)⟩
/-- a list, a tuple of such -/
def Ls (Ps : List VP) : VP := ⟨fun v H => ∃ a vs, v = .ref a ∧ H a = some (.lst vs) ∧ AllP H vs Ps, fun _ _ _ e ⟨a, vs, h1, h2, h3⟩ => ⟨a, vs, h1, e _ _ h2, h3.mono e⟩⟩
def Tp (Ps : List VP) : VP := ⟨fun v H => ∃ a vs, v = .ref a ∧ H a = some (.tup vs) ∧ AllP H vs Ps, fun _ _ _ e ⟨a, vs, h1, h2, h3⟩ => ⟨a, vs, h1, e _ _ h2, h3.mono e⟩⟩
/-- a dict of ints under texts -/
def ofD (kvs : List (Str × Int)) : List (Key × V) := kvs.map fun q => (Sum.inr q.1, V.int q.2)
def Dc (kvs : List (Str × Int)) : VP := ⟨fun v H => ∃ a, v = .ref a ∧ H a = some (.dK (ofD kvs)), fun _ _ _ e ⟨a, h1, h2⟩ => ⟨a, h1, e _ _ h2⟩⟩
def Rf (a : Addr) : VP := Vl (.ref a)
section
variable {X : Cx} {L : List Addr} {e a b c : Expr} {G : Gam} {M M1 M2 M3 M' : Ml} {P P1 P2 P3 P' : VP} {pos : Pos} {i j : Int}
theorem rv_of {r : R2} (h : ∀ x y H H0, Sub L H0 H → P1.p x H0 → P2.p y H0 → ∀ Q : VK, (∀ z, P.p z H0 → Q z H) → r x y H Q) : RV L r P1 P2 P := fun x y H H0 s p1 p2 Q k => h x y H H0 s p1 p2 Q fun z pz => k z H H0 (.refl s) pz
theorem ru_of {r : V → Hp → VK → Prop} (h : ∀ x H H0, Sub L H0 H → P1.p x H0 → ∀ Q : VK, (∀ z, P.p z H0 → Q z H) → r x H Q) : RU L r P1 P := fun x H H0 s p1 Q k => h x H H0 s p1 Q fun z pz => k z H H0 (.refl s) pz
theorem rc_of {r : List V → Hp → VK → Prop} {Ps : List VP} (h : ∀ xs H H0, Sub L H0 H → AllP H0 xs Ps → ∀ Q : VK, (∀ z, P.p z H0 → Q z H) → r xs H Q) : RC L r Ps P := fun x H H0 s p1 Q k => h x H H0 s p1 Q fun z pz => k z H H0 (.refl s) pz
theorem rv_i0 {g : Int → Int → V} : RV L (rI0 g) (Vl (.int i)) (Vl (.int j)) (Vl (g i j)) := rv_of fun x y H H0 s p1 p2 Q k => ⟨i, j, p1, p2, k _ rfl⟩
theorem rv_i {C : Int → Int → Prop} {g : Int → Int → V} (hc : C i j) : RV L (rI C g) (Vl (.int i)) (Vl (.int j)) (Vl (g i j)) := rv_of fun x y H H0 s p1 p2 Q k => ⟨i, j, p1, p2, hc, k _ rfl⟩
theorem rv_ii {C : Int → Int → Prop} {f : Int → Int → Int} {A B D : Int → Prop} (h : ∀ i j, A i → B j → C i j ∧ D (f i j)) : RV L (rI C fun i j => .int (f i j)) (II A) (II B) (II D) :=
  rv_of fun x y H H0 s ⟨i, a1, p1⟩ ⟨j, b1, p2⟩ Q k => ⟨i, j, p1, p2, (h i j a1 b1).1, k _ ⟨_, (h i j a1 b1).2, rfl⟩⟩
theorem rv_ii0 {f : Int → Int → Int} {A B D : Int → Prop} (h : ∀ i j, A i → B j → D (f i j)) : RV L (rI0 fun i j => .int (f i j)) (II A) (II B) (II D) :=
  rv_of fun x y H H0 s ⟨i, a1, p1⟩ ⟨j, b1, p2⟩ Q k => ⟨i, j, p1, p2, k _ ⟨_, h i j a1 b1, rfl⟩⟩
theorem xe_op {op : Operator} {r : R2} (ho : OpR X (binaryOp op) r) (hr : RV L r P1 P2 P) (ha : XE X L a G M P1 M1) (hb : XE X L b G M1 P2 M2) : XE X L (.BinOp a op b pos) G M P M2 :=
  .of (pe_op ho pW pW) (hb.ad.trans ha.ad) fun σ H H0 s l m Q k => ha.then2 hb s l m fun x y H' H0' g s' _ m' p1 p2 => hr x y H' H0' s' p1 p2 Q fun z H'' H0'' g' pz => k z H'' H0'' (g.tr g'.nil) (m'.grow0 g') pz
theorem xe_cmp {op : CmpOp} {r : R2} (ho : OpR X (compareOp op) r) (hr : RV L r P1 P2 P) (ha : XE X L a G M P1 M1) (hb : XE X L b G M1 P2 M2) (hm : behindInMarks op b = false) : XE X L (.Compare a [op] [b] pos) G M P M2 :=
  .of (pe_cmpR ho pW pW hm) (hb.ad.trans ha.ad) fun σ H H0 s l m Q k => ha.then2 hb s l m fun x y H' H0' g s' _ m' p1 p2 => hr x y H' H0' s' p1 p2 Q fun z H'' H0'' g' pz => k z H'' H0'' (g.tr g'.nil) (m'.grow0 g') pz
theorem xe_un {op : UnaryOp} {r : V → Hp → VK → Prop} (ho : UnR X (unaryOp op) r) (hr : RU L r P1 P) (ha : XE X L a G M P1 M1) : XE X L (.UnaryOp op a pos) G M P M1 :=
  .of (pe_un ho pW) ha.ad fun σ H H0 s l m Q k => ha.then_ s l m fun x H' H0' g s' _ m' p1 => hr x H' H0' s' p1 Q fun z H'' H0'' g' pz => k z H'' H0'' (g.tr g'.nil) (m'.grow0 g') pz
theorem xe_ix {r : R2} (hi : IxR X r) (hs : PlainIx b) (hr : RV L r P1 P2 P) (ha : XE X L a G M P1 M1) (hb : XE X L b G M1 P2 M2) : XE X L (.Subscript a b pos) G M P M2 :=
  .of (pe_ix hi pW pW hs) (hb.ad.trans ha.ad) fun σ H H0 s l m Q k => ha.then2 hb s l m fun x y H' H0' g s' _ m' p1 p2 => hr x y H' H0' s' p1 p2 Q fun z H'' H0'' g' pz => k z H'' H0'' (g.tr g'.nil) (m'.grow0 g') pz

/-! ### names, constants, arguments -/
theorem xe_var {i : Nat} {x : Str} (h : G[i]? = some (some P)) (hN : X.N[i]? = some x) (hv : Vis X.env.scope x) (hd : (x == ("__debug__" : Str)) = false := by decide) (hcd : (x == ("__classdict__" : Str)) = false := by decide) : XE X L (.Name x pos) G M P M :=
  .of (pe_var hN hv hd hcd) rfl fun σ H H0 s l m Q k => by
    obtain ⟨v, a, p⟩ := l.2 i P h
    exact ⟨v, a, k v H H0 (.refl s) m p⟩
theorem xe_c {v : V} (h : PE X e (tC v)) : XE X L e G M (Vl v) M := .of h rfl fun σ H H0 s l m Q k => k v H H0 (.refl s) m rfl
theorem xe_int {n k} : XE X L (.Constant (.int n) k pos) G M (Vl (.int n)) M := xe_c pe_int
theorem xe_bl {n k} : XE X L (.Constant (.bool n) k pos) G M (Vl (.bl n)) M := xe_c pe_bl
theorem xe_non {k} : XE X L (.Constant .none k pos) G M (Vl .non) M := xe_c pe_non
theorem xe_str {n k} : XE X L (.Constant (.str n) k pos) G M (Vl (.str n)) M := xe_c pe_str
theorem xa_nil : XA X L [] G M [] M := .of pa_nil rfl fun σ H H0 s l m Q k => k [] H H0 (.refl s) m trivial
theorem xa_cons {es : List Expr} {Ps : List VP} (h : XE X L e G M P M1) (hs : XA X L es G M1 Ps M2) (he : starEach (e :: es) X.env = (false, eval e X.env) :: starEach es X.env := by rfl) : XA X L (e :: es) G M (P :: Ps) M2 :=
  .of (pa_cons pW pWa he) (hs.ad.trans h.ad) fun σ H H0 s l m Q k => h.then_ s l m fun x H1 H01 g1 s1 l1 m1 p1 => hs.then_ s1 l1 m1 fun xs H2 H02 g2 s2 l2 m2 p2 => k (x :: xs) H2 H02 (g1.tr (h.ad ▸ g2)) m2 ⟨P.mono _ _ _ g2.pure p1, p2⟩
/-- *e of a list, a tuple -/
theorem xa_starL {es : List Expr} {Ps Qs : List VP} {p : Pos} (h : XE X L e G M (Ls Qs) M1) (hs : XA X L es G M1 Ps M2) (he : starEach (.Starred e p :: es) X.env = (true, eval e X.env) :: starEach es X.env := by rfl) : XA X L (.Starred e p :: es) G M (Qs ++ Ps) M2 :=
  .of (StX.pa_star pW pWa he) (hs.ad.trans h.ad) fun σ H H0 s l m Q k => h.then_ s l m fun x H1 H01 g1 s1 l1 m1 ⟨pa, vs, ev, hp, ha⟩ => ⟨pa, vs, ev, .inr (SqL.of (s1.lst hp)), hs.then_ s1 l1 m1 fun xs H2 H02 g2 s2 l2 m2 p2 => k (vs ++ xs) H2 H02 (g1.tr (h.ad ▸ g2)) m2 ((ha.mono g2.pure).app p2)⟩
theorem xa_starT {es : List Expr} {Ps Qs : List VP} {p : Pos} (h : XE X L e G M (Tp Qs) M1) (hs : XA X L es G M1 Ps M2) (he : starEach (.Starred e p :: es) X.env = (true, eval e X.env) :: starEach es X.env := by rfl) : XA X L (.Starred e p :: es) G M (Qs ++ Ps) M2 :=
  .of (StX.pa_star pW pWa he) (hs.ad.trans h.ad) fun σ H H0 s l m Q k => h.then_ s l m fun x H1 H01 g1 s1 l1 m1 ⟨pa, vs, ev, hp, ha⟩ => ⟨pa, vs, ev, .inl (SqT.of (s1.tup hp)), hs.then_ s1 l1 m1 fun xs H2 H02 g2 s2 l2 m2 p2 => k (vs ++ xs) H2 H02 (g1.tr (h.ad ▸ g2)) m2 ((ha.mono g2.pure).app p2)⟩
theorem xe_lst {es : List Expr} {Ps : List VP} (h : XA X L es G M Ps M1) (hl : Ps.length ≤ sizeLine) : XE X L (.List es pos) G M (Ls Ps) M1 :=
  .of (pe_lst pWa) h.ad fun σ H H0 s l m Q k => h.then_ s l m fun vs H1 H01 g1 s1 l1 m1 p1 => ⟨by rw [p1.len]; exact hl, fun p hp => by
    have g2 : Grow L [] H01 H1 (upd H01 p (.lst vs)) (upd H1 p (.lst vs)) := .alloc s1 hp
    exact k _ _ _ (g1.tr g2.nil) (m1.grow0 g2) ⟨p, vs, rfl, upd_same, p1.mono g2.pure⟩⟩
theorem xe_tup {es : List Expr} {x1} {Ps : List VP} (h : XA X L es G M Ps M1) (hl : Ps.length ≤ sizeLine) : XE X L (.Tuple es x1 pos) G M (Tp Ps) M1 :=
  .of (pe_tup pWa) h.ad fun σ H H0 s l m Q k => h.then_ s l m fun vs H1 H01 g1 s1 l1 m1 p1 => ⟨by rw [p1.len]; exact hl, fun p hp => by
    have g2 : Grow L [] H01 H1 (upd H01 p (.tup vs)) (upd H1 p (.tup vs)) := .alloc s1 hp
    exact k _ _ _ (g1.tr g2.nil) (m1.grow0 g2) ⟨p, vs, rfl, upd_same, p1.mono g2.pure⟩⟩
theorem xe_if {p : Bool → Prop} (hc : XT X L c G M p M1) (ha : p true → XE X L a G M1 P M2) (hb : p false → XE X L b G M1 P M2) (ad : ads M2 = ads M1) : XE X L (.IfExp c a b pos) G M P M2 :=
  .of (pe_ifExp pWt pW pW) (ad.trans hc.ad) fun σ H H0 s l m Q k => hc.then_ s l m fun d H1 H01 g1 s1 l1 m1 p1 => by
    cases d with
    | true =>
      rw [if_pos rfl]
      exact (ha p1).then_ s1 l1 m1 fun v H2 H02 g2 s2 l2 m2 p2 => k v H2 H02 (g1.tr (hc.ad ▸ g2)) m2 p2
    | false =>
      rw [if_neg Bool.false_ne_true]
      exact (hb p1).then_ s1 l1 m1 fun v H2 H02 g2 s2 l2 m2 p2 => k v H2 H02 (g1.tr (hc.ad ▸ g2)) m2 p2
end
end Y
/-! text Y1 -/
set_option Elab.async false
set_option linter.all false
set_option maxRecDepth 100000
namespace Y
open PySem PySem.Spec PyProof.Rows L2
/-! ### blocks -/
structure Bs where
  h0 : Hp
  h : Hp
  A : List Addr
def stA (L : List Addr) (B : Bs) (G : Gam) (M : Ml) : St → Hp → Prop := fun σ H => ∃ H0, Grow L B.A B.h0 B.h H0 H ∧ SL G σ H0 ∧ MO M H0 H ∧ ∀ b ∈ ads M, b ∈ B.A ∨ B.h b = none
def rtA (L : List Addr) (B : Bs) (P : VP) (M : Ml) : V → Hp → Prop := fun v H => ∃ H0, Grow L B.A B.h0 B.h H0 H ∧ P.p v H0 ∧ MO M H0 H
structure XS (X : Cx) (L : List Addr) (sts : List Stmt) (B : Bs) (G : Gam) (M : Ml) (D : Ends) : Prop where
  run : ∀ σ H, stA L B G M σ H → tWs X sts D σ H
/-- a base within another -/
structure Bl (L : List Addr) (B' B : Bs) : Prop where
  g : ∀ H0 H, Grow L B'.A B'.h0 B'.h H0 H → Grow L B.A B.h0 B.h H0 H
  f : ∀ b, (b ∈ B'.A ∨ B'.h b = none) → (b ∈ B.A ∨ B.h b = none)
theorem Bl.refl {L : List Addr} {B : Bs} : Bl L B B := ⟨fun _ _ h => h, fun _ h => h⟩
theorem Bl.trans {L : List Addr} {B B1 B2 : Bs} (a : Bl L B2 B1) (b : Bl L B1 B) : Bl L B2 B := ⟨fun H0 H h => b.g H0 H (a.g H0 H h), fun x h => b.f x (a.f x h)⟩
theorem rtA.lift {L : List Addr} {B B' : Bs} {P : VP} {M : Ml} {v : V} {H : Hp} (h : rtA L B' P M v H) (b : Bl L B' B) : rtA L B P M v H := by
  obtain ⟨H0, g, p, m⟩ := h
  exact ⟨H0, b.g _ _ g, p, m⟩
theorem rtA.imp {L : List Addr} {B : Bs} {P P' : VP} {M M' : Ml} {v : V} {H : Hp} (h : rtA L B P M v H) (hp : ∀ v H, P.p v H → P'.p v H) (hm : ∀ H0 H, MO M H0 H → MO M' H0 H) : rtA L B P' M' v H := by
  obtain ⟨H0, g, p, m⟩ := h
  exact ⟨H0, g, hp _ _ p, hm _ _ m⟩
theorem stA.lift {L : List Addr} {B B' : Bs} {G : Gam} {M : Ml} {σ : St} {H : Hp} (h : stA L B' G M σ H) (b : Bl L B' B) : stA L B G M σ H := by
  obtain ⟨H0, g, l, m, f⟩ := h
  exact ⟨H0, b.g _ _ g, l, m, fun x hx => b.f x (f x hx)⟩
section
variable {X : Cx} {L : List Addr} {e a b c tg iter : Expr} {G G1 G2 : Gam} {M M1 M2 M3 M' Mw : Ml} {P P1 P2 P3 P' : VP} {pos : Pos} {i j : Nat} {B : Bs} {D : Ends} {rest sts : List Stmt} {st : Stmt} {x : Str}
theorem xs_nil (h : ∀ σ H, stA L B G M σ H → D.nx σ H) : XS X L [] B G M D := ⟨fun σ H s => by
  intro pins sh I
  exact pss_nil.run pins sh σ H D I (h σ H s)⟩
theorem xs_nil2 (h : ∀ σ H, stA L B G M σ H → D.nx σ H) : XS X L [] B G M { D with nx := tWs X [] D } := xs_nil (xs_nil h).run
theorem xs_of {t : TS} (h1 : PS X st t) (h : ∀ σ H, stA L B G M σ H → t { D with nx := tWs X rest D } σ H) : XS X L (st :: rest) B G M D := ⟨fun σ H s => by
  intro pins sh I
  exact (pss_cons h1 pWs).run pins sh σ H D I (h σ H s)⟩
/-- what is known is weakened -/
theorem XS.weak (h : XS X L sts B G1 M1 D) (hg : ∀ σ H, SL G σ H → SL G1 σ H) (ha : ads M1 = ads M) (hm : ∀ H0 H, MO M H0 H → MO M1 H0 H) : XS X L sts B G M D := ⟨fun σ H ⟨H0, g, l, m, f⟩ => h.run σ H ⟨H0, g, hg σ H0 l, hm _ _ m, by rw [ha]; exact f⟩⟩
/-- a cell is dropped -/
theorem XS.drop {c : Addr × CP} (h : XS X L sts B G M D) : XS X L sts B G (c :: M) D := ⟨fun σ H ⟨H0, g, l, m, f⟩ => h.run σ H ⟨H0, g, l, ⟨(List.nodup_cons.mp m.1).2, fun q hq => m.2 q (List.mem_cons_of_mem _ hq)⟩, fun b hb => f b (List.mem_cons_of_mem _ hb)⟩⟩
/-- a slot's choice is opened -/
theorem xs_open {α : Type} {f : α → Prop} {Q : α → VP} (h : G[i]? = some (some (ExP f Q))) (k : ∀ x, f x → XS X L sts B (G.set i (some (Q x))) M D) : XS X L sts B G M D := ⟨fun σ H ⟨H0, g, l, m, fr⟩ => by
  obtain ⟨v, e, y, fy, p⟩ := l.2 i _ h
  refine (k y fy).run σ H ⟨H0, g, ?_, m, fr⟩
  have q := SL.set (i := i) (v := v) (P := Q y) l p
  have eq : σ.set i (some v) = σ := by
    apply List.ext_getElem?
    intro j
    rw [List.getElem?_set]
    split
    · rename_i ej
      subst ej
      split
      · exact e.symm
      · rename_i hl
        have : σ[i]? = none := List.getElem?_eq_none_iff.mpr (by omega)
        rw [this] at e
        cases e
    · rfl
  rw [eq] at q
  exact q⟩
theorem xs_openI {f : Int → Prop} (h : G[i]? = some (some (II f))) (k : ∀ x, f x → XS X L sts B (G.set i (some (Vl (.int x)))) M D) : XS X L sts B G M D := xs_open (f := f) (Q := fun x => Vl (.int x)) h k
theorem xs_openOr (h : G[i]? = some (some (OrP P P'))) (k1 : XS X L sts B (G.set i (some P)) M D) (k2 : XS X L sts B (G.set i (some P')) M D) : XS X L sts B G M D := by
  have hh : G[i]? = some (some (ExP (fun _ : Bool => True) (fun b => if b = true then P else P'))) → XS X L sts B G M D := fun q => xs_open q fun x _ => by
    cases x with
    | true => exact k1
    | false => exact k2
  refine ⟨fun σ H ⟨H0, g, l, m, fr⟩ => ?_⟩
  have key : ∀ R : VP, (∃ v, σ[i]? = some (some v) ∧ R.p v H0) → SL (G.set i (some R)) σ H0 := fun R ⟨v, e, p⟩ => by
    have q := SL.set (i := i) (v := v) (P := R) l p
    have eq : σ.set i (some v) = σ := by
      apply List.ext_getElem?
      intro j
      rw [List.getElem?_set]
      split
      · rename_i ej
        subst ej
        split
        · exact e.symm
        · rename_i hl
          have : σ[i]? = none := List.getElem?_eq_none_iff.mpr (by omega)
          rw [this] at e
          cases e
      · rfl
    rw [eq] at q
    exact q
  obtain ⟨v, e, p | p⟩ := l.2 i _ h
  · exact k1.run σ H ⟨H0, g, key P ⟨v, e, p⟩, m, fr⟩
  · exact k2.run σ H ⟨H0, g, key P' ⟨v, e, p⟩, m, fr⟩

/-! ### targets -/
/-- a target of slots js takes a value of P -/
structure XG1 (X : Cx) (L : List Addr) (tg : Expr) (js : List Nat) (P : VP) (G G' : Gam) : Prop where
  run : ∀ v σ H H0, Sub L H0 H → SL G σ H0 → P.p v H0 → ∀ Q : St → Hp → Prop, (∀ σ', SL G' σ' H0 → σ'.length = σ.length → (∀ j, j ∉ js → σ'[j]? = σ[j]?) → Q σ' H) → tWg X tg v σ H Q
theorem xg_of {t : TG} {js : List Nat} (hp : PG X tg t) (h : ∀ v σ H H0, Sub L H0 H → SL G σ H0 → P.p v H0 → ∀ Q : St → Hp → Prop, (∀ σ', SL G1 σ' H0 → σ'.length = σ.length → (∀ j, j ∉ js → σ'[j]? = σ[j]?) → Q σ' H) → t v σ H Q) : XG1 X L tg js P G G1 :=
  ⟨fun v σ H H0 s l p Q k pins sh u I r => hp.run pins sh σ H v u Q I r (h v σ H H0 s l p Q k)⟩
theorem xg_name (hN : X.N.Nodup) (hi : X.N[i]? = some x) (hx : Loc X.env.scope x) (hf : X.fn x = true ∨ X.env.scope.names.lookup x = some .local := by first | exact .inl rfl | exact .inr rfl | assumption) : XG1 X L (.Name x pos) [i] P G (G.set i (some P)) :=
  xg_of (pg_name hN hi hx hf) fun v σ H H0 s l p Q k => k _ (l.set p) (List.length_set ..) fun j hj => by rw [List.getElem?_set_ne (by intro e; exact hj (by simp [e]))]
/-- a, b, .. -/
structure XGs (X : Cx) (L : List Addr) (tgs : List Expr) (js : List Nat) (Ps : List VP) (G G' : Gam) : Prop where
  run : ∃ t, PGs X tgs t ∧ ∀ vs σ H H0, Sub L H0 H → SL G σ H0 → AllP H0 vs Ps → ∀ Q : St → Hp → Prop, (∀ σ', SL G' σ' H0 → σ'.length = σ.length → (∀ j, j ∉ js → σ'[j]? = σ[j]?) → Q σ' H) → t vs σ H Q
theorem xgs_nil : XGs X L [] [] [] G G := ⟨_, pgs_nil, fun vs σ H H0 s l p Q k => by
  cases vs with
  | nil => exact ⟨rfl, k σ l rfl fun _ _ => rfl⟩
  | cons v vs => exact p.elim⟩
theorem xgs_cons {e : Expr} {es : List Expr} {js ks : List Nat} {Ps : List VP} (h1 : XG1 X L e js P G G1) (h2 : XGs X L es ks Ps G1 G2) (hs : (assignEach (e :: es) X.env).map (·.2) = assign e X.env :: (assignEach es X.env).map (·.2) := by rfl) : XGs X L (e :: es) (js ++ ks) (P :: Ps) G G2 := by
  obtain ⟨t, ht, h2⟩ := h2
  refine ⟨_, pgs_cons pWg ht hs, fun vs σ H H0 s l p Q k => ?_⟩
  cases vs with
  | nil => exact p.elim
  | cons v vs =>
    refine ⟨v, vs, rfl, h1.run v σ H H0 s l p.1 _ fun σ1 l1 e1 k1 => h2 vs σ1 H H0 s l1 p.2 Q fun σ2 l2 e2 k2 => k σ2 l2 (e2.trans e1) fun j hj => ?_⟩
    rw [k2 j fun z => hj (List.mem_append_right _ z), k1 j fun z => hj (List.mem_append_left _ z)]
theorem xg_tup {es : List Expr} {kk : Nat} {js : List Nat} {Ps : List VP} (hc : X.calm = true) (h : XGs X L es js Ps G G1) (hn : (assignEach es X.env).length = Ps.length := by rfl) (hst : (assignEach es X.env).findIdx? (·.1) = none := by rfl) : XG1 X L (.Tuple es kk pos) js (Tp Ps) G G1 := by
  obtain ⟨t, ht, h⟩ := h
  exact xg_of (pg_tup hc ht hn hst) fun v σ H H0 s l ⟨a, vs, e, ha, hv⟩ Q k => ⟨a, vs, e, SqT.of (s.tup ha), hv.len, h vs σ H H0 s l hv Q k⟩
/-- target = e -/
theorem xs_asg {js : List Nat} (he : XE X L e G M P M1) (hg : XG1 X L tg js P G G1) (hr : XS X L rest B G1 M1 D) (hs : swapsWithSole [tg] e pos.line X.env = pure false := by rfl) (hw : swappedStores [tg] e X.env = pure none := by rfl)
    (h1 : (assignEach [tg] X.env).map (·.2) = [assign tg X.env] := by rfl) : XS X L (.Assign [tg] e pos :: rest) B G M D :=
  xs_of (ps_asg pW pWg hs hw h1) fun σ H ⟨H0, g, l, m, f⟩ => he.then_ g.sub l m fun v H1 H01 g1 s1 l1 m1 p1 => hg.run v σ H1 H01 s1 l1 p1 _ fun σ' l' _ _ => hr.run σ' H1 ⟨H01, g.trans g1 f, l', m1, by rw [he.ad]; exact f⟩
theorem xs_set {pos' : Pos} (he : XE X L e G M P M1) (hN : X.N.Nodup) (hi : X.N[i]? = some x) (hx : Loc X.env.scope x) (hr : XS X L rest B (G.set i (some P)) M1 D) (hs : swapsWith e (some (.Name x pos')) pos.line X.env = pure false := by rfl)
    (hf : X.fn x = true ∨ X.env.scope.names.lookup x = some .local := by first | exact .inl rfl | exact .inr rfl | assumption) : XS X L (.Assign [.Name x pos'] e pos :: rest) B G M D :=
  xs_of (ps_set hN hi hx pW hs hf) fun σ H ⟨H0, g, l, m, f⟩ => he.then_ g.sub l m fun v H1 H01 g1 s1 l1 m1 p1 => hr.run _ H1 ⟨H01, g.trans g1 f, l1.set p1, m1, by rw [he.ad]; exact f⟩
theorem xs_expr (he : XE X L e G M P M1) (hr : XS X L rest B G M1 D) (hs : swapsWith e none pos.line X.env = pure false := by rfl) : XS X L (.Expr e pos :: rest) B G M D :=
  xs_of (ps_expr pW hs) fun σ H ⟨H0, g, l, m, f⟩ => he.then_ g.sub l m fun v H1 H01 g1 s1 l1 m1 p1 => hr.run _ H1 ⟨H01, g.trans g1 f, l1, m1, by rw [he.ad]; exact f⟩
theorem xs_ret (he : XE X L e G M P M1) (hr : ∀ v H, rtA L B P M1 v H → D.rt v H) : XS X L (.Return (some e) pos :: rest) B G M D :=
  xs_of (ps_ret pW) fun σ H ⟨H0, g, l, m, f⟩ => he.then_ g.sub l m fun v H1 H01 g1 s1 l1 m1 p1 => hr v H1 ⟨H01, g.trans g1 f, p1, m1⟩
theorem xs_retN (hr : ∀ v H, rtA L B (Vl .non) M v H → D.rt v H) : XS X L (.Return none pos :: rest) B G M D :=
  xs_of ps_retN fun σ H ⟨H0, g, l, m, f⟩ => hr _ H ⟨H0, g, rfl, m⟩
theorem xs_if {p : Bool → Prop} {sa sb : List Stmt} (hc : XT X L c G M p M1) (ha : p true → XS X L sa B G M1 { D with nx := tWs X rest D }) (hb : p false → XS X L sb B G M1 { D with nx := tWs X rest D }) : XS X L (.If c sa sb pos :: rest) B G M D :=
  xs_of (ps_if pWt pWs pWs) fun σ H ⟨H0, g, l, m, f⟩ => hc.then_ g.sub l m fun v H1 H01 g1 s1 l1 m1 p1 => by
    cases v with
    | true =>
      rw [if_pos rfl]
      exact (ha p1).run σ H1 ⟨H01, g.trans g1 f, l1, m1, by rw [hc.ad]; exact f⟩
    | false =>
      rw [if_neg Bool.false_ne_true]
      exact (hb p1).run σ H1 ⟨H01, g.trans g1 f, l1, m1, by rw [hc.ad]; exact f⟩
/-- if without else: the rest follows -/
theorem xs_when {p : Bool → Prop} {sa : List Stmt} (hc : XT X L c G M p M1) (ha : p true → XS X L sa B G M1 { D with nx := tWs X rest D }) (hb : p false → XS X L rest B G M1 D) : XS X L (.If c sa [] pos :: rest) B G M D :=
  xs_if hc ha fun h => xs_nil fun σ H s => (hb h).run σ H s
theorem xs_never (h : False) : XS X L sts B G M D := h.elim

/-! ### what is walked -/
structure XI (X : Cx) (L : List Addr) (tg iter : Expr) (G : Gam) (M : Ml) (Ps : List VP) (M1 Mw : Ml) : Prop where
  ad : ads M1 = ads M
  run : ∃ wi, PI X tg iter wi ∧ ∀ σ H H0, Sub L H0 H → SL G σ H0 → MO M H0 H → ∀ R : It → Hp → Prop,
    (∀ J H' H0' (Gd : Hp → Prop) Y, Grow L (ads M) H0 H H0' H' → MO M1 H0' H' → Walk J Ps.length Gd Y → (∀ Hx H0x, Grow L (ads M1) H0' H' H0x Hx → MO Mw H0x Hx → Gd Hx) →
      (∀ i Hx z Hy H0x, i < Ps.length → Grow L (ads M1) H0' H' H0x Hx → Y i Hx z Hy → ∃ H0y P, Grow L [] H0x Hx H0y Hy ∧ Ps[i]? = some P ∧ P.p z H0y) → R J H') → wi σ H R
theorem xi_list {Ps : List VP} (he : XE X L e G M (Ls Ps) M1) : XI X L tg e G M Ps M1 [] := ⟨he.ad, _, pi_list pW, fun σ H H0 s l m R k => he.then_ s l m fun v H1 H01 g1 s1 l1 m1 ⟨a, vs, ev, ha, hv⟩ => ⟨a, ev, ⟨vs, SqL.of (s1.lst ha)⟩, by
  refine k _ H1 H01 _ _ g1 m1 (hv.len ▸ walk_list (xs := vs)) (fun Hx H0x gx _ => SqL.of (gx.sub.lst (gx.pure _ _ ha))) fun i Hx z Hy H0x hi gx hy => ?_
  obtain ⟨rfl, hz⟩ := hy
  obtain ⟨P, hP, pz⟩ := (hv.mono gx.pure).get' hz
  exact ⟨H0x, P, .refl gx.sub, hP, pz⟩⟩⟩
theorem xi_tup {Ps : List VP} (he : XE X L e G M (Tp Ps) M1) : XI X L tg e G M Ps M1 [] := ⟨he.ad, _, pi_tup pW, fun σ H H0 s l m R k => he.then_ s l m fun v H1 H01 g1 s1 l1 m1 ⟨a, vs, ev, ha, hv⟩ => ⟨a, ev, ⟨vs, SqT.of (s1.tup ha)⟩, by
  refine k _ H1 H01 _ _ g1 m1 (hv.len ▸ walk_tup (xs := vs)) (fun Hx H0x gx _ => SqT.of (gx.sub.tup (gx.pure _ _ ha))) fun i Hx z Hy H0x hi gx hy => ?_
  obtain ⟨rfl, hz⟩ := hy
  obtain ⟨P, hP, pz⟩ := (hv.mono gx.pure).get' hz
  exact ⟨H0x, P, .refl gx.sub, hP, pz⟩⟩⟩
/-- 0, 1, .. below n -/
def rngP (n : Nat) : List VP := (List.range n).map fun i => Vl (.int (i : Nat))
theorem rngP_len (n : Nat) : (rngP n).length = n := by simp [rngP]
theorem rngP_at {n i : Nat} (h : i < n) : (rngP n)[i]? = some (Vl (.int (i : Nat))) := by simp [rngP, h]
theorem xi_range {n : Nat} {p1 p2 : Pos} (hg : Gl X "range") (hm : X.mg "range" = none) (he : XE X L e G M (Vl (.int (n : Int))) M1) (hn : n < 2 ^ 62) (hs : starEach [e] X.env = [(false, eval e X.env)] := by rfl) : XI X L tg (.Call (.Name "range" p1) [e] [] p2) G M (rngP n) M1 [] :=
  ⟨he.ad, _, pi_range1 hg hm (pa_cons pW pa_nil hs) hs, fun σ H H0 s l m R k => he.then_ s l m fun v H1 H01 g1 s1 l1 m1 ev => by
    have ev : v = .int (n : Int) := ev
    subst ev
    refine ⟨(n : Int), rfl, by omega, by omega, ?_⟩
    have w : Walk (Itr 0 n) (rngP n).length (fun _ => True) (YFn fun i => .int (0 + (i : Int))) := by
      rw [rngP_len]
      exact walk_range
    rw [Int.toNat_natCast]
    refine k _ H1 H01 _ _ g1 m1 w (fun _ _ _ _ => trivial) fun i Hx z Hy H0x hi gx hy => ?_
    obtain ⟨rfl, hz⟩ := hy
    rw [rngP_len] at hi
    exact ⟨H0x, _, .refl gx.sub, rngP_at hi, by rw [hz]; show V.int (0 + (i : Int)) = V.int (i : Int); rw [Int.zero_add]⟩⟩
def zipP (Ps Qs : List VP) : List VP := List.zipWith (fun P Q => Tp [P, Q]) Ps Qs
theorem zip_at {Ps Qs : List VP} {i : Nat} {P Q : VP} (h1 : Ps[i]? = some P) (h2 : Qs[i]? = some Q) : (zipP Ps Qs)[i]? = some (Tp [P, Q]) := by
  unfold zipP
  rw [List.getElem?_zipWith, h1, h2]
theorem xi_zip {f1 f2 : Expr} {Ps Qs : List VP} {p1 p2 tpos : Pos} {elts : List Expr} {kk : Nat} (hg : Gl X "zip") (hm : X.mg "zip" = none) (he : XE X L f1 G M (Ls Ps) M1) (he2 : XE X L f2 G M1 (Ls Qs) M2) (hs : starEach [f1, f2] X.env = (false, eval f1 X.env) :: starEach [f2] X.env := by rfl) (hs2 : starEach [f2] X.env = [(false, eval f2 X.env)] := by rfl) (hpl : ((backTo p2 (starEach [f2] X.env)).any fun x => x.1) = false := by rfl) :
    XI X L (.Tuple elts kk tpos) (.Call (.Name "zip" p1) [f1, f2] [] p2) G M (zipP Ps Qs) M2 [] := by
  refine ⟨he2.ad.trans he.ad, _, pi_zip hg hm (pa_cons pW (pa_cons pW pa_nil hs2) hs) hs hpl, fun σ H H0 s l m R k => ?_⟩
  refine he.then2 he2 s l m fun x y H1 H01 g1 s1 l1 m1 ⟨a, vs, ea, ha, hv⟩ ⟨b, ws, eb, hb, hw⟩ => ?_
  subst ea eb
  refine ⟨a, b, vs, ws, rfl, SqL.of (s1.lst ha), SqL.of (s1.lst hb), ?_⟩
  refine k _ H1 H01 _ _ g1 m1 (walk_zip (xs := vs) (ys := ws) (by simp [zipP, hv.len, hw.len])) (fun Hx H0x gx _ => ⟨SqL.of (gx.sub.lst (gx.pure _ _ ha)), SqL.of (gx.sub.lst (gx.pure _ _ hb))⟩) fun i Hx z Hy H0x hi gx hy => ?_
  obtain ⟨T, x, y, rfl, hT, rfl, hx, hy⟩ := hy
  obtain ⟨P, hP, px⟩ := (hv.mono gx.pure).get' hx
  obtain ⟨Q, hQ, py⟩ := (hw.mono gx.pure).get' hy
  have g2 : Grow L [] H0x Hx (upd H0x T (.tup [x, y])) (upd Hx T (.tup [x, y])) := .alloc gx.sub hT
  exact ⟨_, Tp [P, Q], g2, zip_at hP hQ, T, [x, y], rfl, upd_same, P.mono _ _ _ g2.pure px, Q.mono _ _ _ g2.pure py, trivial⟩
def enumP (Ps : List VP) : List VP := List.zipWith (fun i P => Tp [Vl (.int (i : Nat)), P]) (List.range Ps.length) Ps
theorem enumP_len (Ps : List VP) : (enumP Ps).length = Ps.length := by simp [enumP]
theorem enum_at {Ps : List VP} {i : Nat} {P : VP} (h1 : Ps[i]? = some P) : (enumP Ps)[i]? = some (Tp [Vl (.int (i : Nat)), P]) := by
  have hi : i < Ps.length := (List.getElem?_eq_some_iff.mp h1).1
  unfold enumP
  rw [List.getElem?_zipWith, h1, List.getElem?_range hi]
theorem xi_enum {Ps : List VP} {p1 p2 tpos : Pos} {elts : List Expr} {kk : Nat} (hg : Gl X "enumerate") (hm : X.mg "enumerate" = none) (he : XE X L e G M (Ls Ps) M1) (hs : starEach [e] X.env = [(false, eval e X.env)] := by rfl) :
    XI X L (.Tuple elts kk tpos) (.Call (.Name "enumerate" p1) [e] [] p2) G M (enumP Ps) M1 [] := by
  refine ⟨he.ad, _, pi_enum hg hm (pa_cons pW pa_nil hs) hs, fun σ H H0 s l m R k => ?_⟩
  refine he.then_ s l m fun x H1 H01 g1 s1 l1 m1 ⟨a, vs, ea, ha, hv⟩ => ?_
  subst ea
  refine ⟨a, vs, rfl, SqL.of (s1.lst ha), ?_⟩
  refine k _ H1 H01 _ _ g1 m1 ((enumP_len Ps).symm ▸ hv.len ▸ walk_enum (xs := vs)) (fun Hx H0x gx _ => SqL.of (gx.sub.lst (gx.pure _ _ ha))) fun i Hx z Hy H0x hi gx hy => ?_
  obtain ⟨T, x, y, rfl, hT, rfl, hx, hy⟩ := hy
  obtain rfl := Option.some.inj hx
  obtain ⟨Q, hQ, py⟩ := (hv.mono gx.pure).get' hy
  have g2 : Grow L [] H0x Hx (upd H0x T (.tup [.int (i : Nat), y])) (upd Hx T (.tup [.int (i : Nat), y])) := .alloc gx.sub hT
  exact ⟨_, _, g2, enum_at hQ, T, _, rfl, upd_same, rfl, Q.mono _ _ _ g2.pure py, trivial⟩

/-! ### for -/
def aft {ι : Type} (L : List Addr) (B : Bs) (f : Nat → ι → Prop) (Gs : Nat → ι → Gam) (Ms : Nat → ι → Ml) (i : Nat) : St → Hp → Prop := fun σ H => ∃ a, f i a ∧ stA L B (Gs i a) (Ms i a) σ H
theorem xs_for {ι : Type} {Ps : List VP} {body : List Stmt} (hp : PassesOwn (model X.prog X.w) X.A X.env X.xe) (hc : X.calm = true) (hi : XI X L tg iter G M Ps M1 Mw) (f : Nat → ι → Prop) (Gs : Nat → ι → Gam) (Ms : Nat → ι → Ml)
    (h0 : ∃ a, f 0 a ∧ (∀ σ H, SL G σ H → SL (Gs 0 a) σ H) ∧ ads (Ms 0 a) = ads M1 ∧ ∀ H0 H, MO M1 H0 H → MO (Ms 0 a) H0 H)
    (hm : ∀ i a, f i a → ∀ H0 H, MO (Ms i a) H0 H → MO Mw H0 H)
    (hs : ∀ i a P B', Bl L B' B → Ps[i]? = some P → f i a → ∃ js G2, XG1 X L tg js P (Gs i a) G2 ∧ XS X L body B' G2 (Ms i a) { D with nx := aft L B' f Gs Ms (i + 1), ct := aft L B' f Gs Ms (i + 1), bk := tWs X rest D })
    (hd : ∀ a, f Ps.length a → XS X L rest B (Gs Ps.length a) (Ms Ps.length a) D)
    (hfs : ∀ x, foldedSetIterable iter X.env x = pure x := by intro _; rfl) : XS X L (.For tg iter body [] pos :: rest) B G M D := by
  obtain ⟨wi, hwi, hrun⟩ := hi.run
  refine xs_of (ps_for hp hc hwi pWg pWs hfs) fun σ H ⟨H0, g, l, m, fr⟩ => ?_
  refine hrun σ H H0 g.sub l m _ fun J H1 H01 Gd Y g1 m1 w hG hY => ?_
  have gB : Grow L B.A B.h0 B.h H01 H1 := g.trans g1 fr
  have bl : Bl L ⟨H01, H1, ads M1⟩ B := ⟨fun Hx H => fun gx => gB.trans gx fun b hb => by rw [hi.ad] at hb; exact fr b hb, fun b hb => by
    rcases hb with hb | hb
    · have hb : b ∈ ads M1 := hb
      rw [hi.ad] at hb
      exact fr b hb
    · cases q : B.h b with
      | none => exact .inr rfl
      | some o => exact absurd hb (gB.live b (by rw [q]; simp))⟩
  refine for_it w (fun i σ' H' => aft L ⟨H01, H1, ads M1⟩ f Gs Ms i σ' H') ?_ ?_ ?_ ?_
  · obtain ⟨a, fa, hg, ha, hmo⟩ := h0
    exact ⟨a, fa, H01, .refl g1.sub, hg _ _ (l.mono g1.pure), hmo _ _ m1, fun b hb => .inl (by rw [ha] at hb; exact hb)⟩
  · rintro i σ' H' _ ⟨a, fa, H0', g', l', m', f'⟩
    exact hG H' H0' g' (hm i a fa _ _ m')
  · rintro i z σ' H' H'' hi' ⟨a, fa, H0', g', l', m', f'⟩ hy
    obtain ⟨H0y, P, gy, hP, pz⟩ := hY i H' z H'' H0' hi' g' hy
    obtain ⟨js, G2, hg2, hb⟩ := hs i a P _ bl hP fa
    refine hg2.run z σ' H'' H0y gy.sub (l'.mono gy.pure) pz _ fun σ2 l2 _ _ => ?_
    exact hb.run σ2 H'' ⟨H0y, g'.tr gy.nil, l2, m'.grow0 gy, f'⟩
  · rintro σ' H' ⟨a, fa, hst⟩
    exact (hd a fa).run σ' H' (stA.lift hst bl)
theorem xs_while {ι : Type} {body : List Stmt} (hp : PassesOwn (model X.prog X.w) X.A X.env X.xe) (f : ι → Prop) (μ : ι → Nat) (Gs : ι → Gam) (Ms : ι → Ml)
    (h0 : ∃ a, f a ∧ (∀ σ H, SL G σ H → SL (Gs a) σ H) ∧ ads (Ms a) = ads M ∧ ∀ H0 H, MO M H0 H → MO (Ms a) H0 H)
    (hs : ∀ a, f a → ∃ p M2, XT X L c (Gs a) (Ms a) p M2 ∧
      (p true → XS X L body B (Gs a) M2 { D with nx := fun σ H => ∃ a', f a' ∧ μ a' < μ a ∧ stA L B (Gs a') (Ms a') σ H, ct := fun σ H => ∃ a', f a' ∧ μ a' < μ a ∧ stA L B (Gs a') (Ms a') σ H, bk := tWs X rest D }) ∧
      (p false → XS X L rest B (Gs a) M2 D)) : XS X L (.While c body [] pos :: rest) B G M D := by
  refine xs_of (ps_while hp pWt pWs) fun σ H ⟨H0, g, l, m, fr⟩ => ?_
  refine ⟨fun k σ H => ∃ a, f a ∧ μ a = k ∧ stA L B (Gs a) (Ms a) σ H, ?_, ?_⟩
  · obtain ⟨a, fa, hg, ha, hmo⟩ := h0
    exact ⟨_, a, fa, rfl, H0, g, hg _ _ l, hmo _ _ m, by rw [ha]; exact fr⟩
  · rintro k σ' H' ⟨a, fa, rfl, H0', g', l', m', f'⟩
    obtain ⟨p, M2, ht, hb, hr⟩ := hs a fa
    refine ht.then_ g'.sub l' m' fun v H1 H01 g1 s1 l1 m1 p1 => ?_
    have st : stA L B (Gs a) M2 σ' H1 := ⟨H01, g'.trans g1 f', l1, m1, by rw [ht.ad]; exact f'⟩
    cases v with
    | true =>
      rw [if_pos rfl]
      exact ⟨_, fun σ2 H2 ⟨a', fa', lt, st'⟩ => ⟨μ a', lt, a', fa', rfl, st'⟩, (hb p1).run σ' H1 st⟩
    | false =>
      rw [if_neg Bool.false_ne_true]
      exact (hr p1).run σ' H1 st
end
end Y
/-! text Y2 -/
set_option Elab.async false
set_option linter.all false
set_option maxRecDepth 100000
namespace Y
open PySem PySem.Spec PyProof.Rows L2
/-! ### cells joined -/
theorem ads_app (A B : Ml) : ads (A ++ B) = ads A ++ ads B := by simp [ads]
theorem MO.left {A B : Ml} {H0 H : Hp} (m : MO (A ++ B) H0 H) : MO A H0 H := ⟨by
  have h := m.1
  rw [ads_app] at h
  exact (List.nodup_append.mp h).1, fun c hc => m.2 c (List.mem_append_left _ hc)⟩
theorem MO.right {A B : Ml} {H0 H : Hp} (m : MO (A ++ B) H0 H) : MO B H0 H := ⟨by
  have h := m.1
  rw [ads_app] at h
  exact (List.nodup_append.mp h).2.1, fun c hc => m.2 c (List.mem_append_right _ hc)⟩
theorem MO.disj {A B : Ml} {H0 H : Hp} (m : MO (A ++ B) H0 H) : ∀ a ∈ ads A, a ∉ ads B := by
  have h := m.1
  rw [ads_app] at h
  intro a ha hb
  exact (List.nodup_append.mp h).2.2 a ha a hb rfl
/-- A has turned into A', B stands by -/
theorem MO.join {L : List Addr} {A A' B : Ml} {H0 H H0' H' : Hp} (m : MO (A ++ B) H0 H) (g : Grow L (ads A) H0 H H0' H') (m' : MO A' H0' H') (ha : ads A' = ads A) : MO (A' ++ B) H0' H' := by
  have mb := m.right.grow g m.disj
  refine ⟨?_, fun c hc => (List.mem_append.mp hc).elim (m'.2 c) (mb.2 c)⟩
  rw [ads_app, ha, ← ads_app]
  exact m.1
theorem ads_sub_l {A B : Ml} : ∀ b ∈ ads A, b ∈ ads (A ++ B) := fun b h => by
  rw [ads_app]
  exact List.mem_append_left _ h

/-! ### a def's promise -/
def spG {α : Type} (pre : α → Prop) (As : α → List VP) (Mi : α → Ml) (R : α → VP) (Mo : α → Ml) : Sp := fun vs H Q _ => ∃ a H0, pre a ∧ Sub [] H0 H ∧ AllP H0 vs (As a) ∧ MO (Mi a) H0 H ∧
  ∀ v H' H0', Grow [] (ads (Mi a)) H0 H H0' H' → MO (Mo a) H0' H' → (R a).p v H0' → Q v H'
/-- a def without cells -/
abbrev spP {α : Type} (pre : α → Prop) (As : α → List VP) (R : α → VP) : Sp := spG pre As (fun _ => []) R (fun _ => [])
section
variable {X : Cx} {L : List Addr} {e a b c tg iter : Expr} {G G1 G2 : Gam} {M M1 M2 M3 M' Mw Mf : Ml} {P P1 P2 P3 P' : VP} {pos : Pos} {i j : Nat} {x : Str}

/-! ### calls -/
theorem sp_use {α : Type} {pre : α → Prop} {As : α → List VP} {Mi Mo : α → Ml} {R : α → VP} {E : XK} (y : α) (hpre : pre y) (had : ads (Mo y) = ads (Mi y)) {vs : List V} {H H0 : Hp} (s : Sub [] H0 H) (m : MO (Mi y ++ Mf) H0 H) (hv : AllP H0 vs (As y)) {Q : VK}
    (k : ∀ v H' H0', Grow [] (ads (Mi y ++ Mf)) H0 H H0' H' → MO (Mo y ++ Mf) H0' H' → (R y).p v H0' → Q v H') : spG pre As Mi R Mo vs H Q E :=
  ⟨y, H0, hpre, s, hv, m.left, fun v H' H0' g m' p => k v H' H0' (g.wide ads_sub_l) (m.join g m' had) p⟩
theorem xe_call {α : Type} {pre : α → Prop} {As : α → List VP} {Mi Mo : α → Ml} {R : α → VP} {k : Nat} {f : Addr} {fd : FuncData} {ps : List Str} {es : List Expr} {p : Pos} (F : FnOk X.prog X.w X.K X.mg X.base CX0 k f fd ps (spG pre As Mi R Mo)) (hr : Room k X.A) (hg : Gl X x) (hm : X.mg x = some (.ref f)) (hk : PySem.W.keepIn X.K (.ref f) = true) (hb : Binds X.K fd ps [])
    (y : α) (ha : XA X [] (e :: es) G M (As y) (Mi y ++ Mf)) (hpre : pre y) (had : ads (Mo y) = ads (Mi y)) (hdb : (x == ("__debug__" : Str)) = false := by decide) (he : starEach (e :: es) X.env = (false, eval e X.env) :: starEach es X.env := by rfl) (hpl : (backTo pos (starEach es X.env)).any (·.1) = false := by rfl) :
    XE X [] (.Call (.Name x p) (e :: es) [] pos) G M (R y) (Mo y ++ Mf) := by
  refine .of (pe_call F hr hg hm hk hb .nil pass0 pWa hdb he hpl) (by rw [ads_app, had, ← ads_app]; exact ha.ad) fun σ H H0 s l m Q k => ?_
  refine ha.then_ s l m fun vs H1 H01 g1 s1 l1 m1 p1 => ?_
  rw [List.append_nil]
  exact sp_use y hpre had s1 m1 p1 fun v H' H0' g m' p => k v H' H0' (g1.tr (by rw [← ha.ad]; exact g)) m' p
theorem xe_call0 {α : Type} {pre : α → Prop} {As : α → List VP} {Mi Mo : α → Ml} {R : α → VP} {k : Nat} {f : Addr} {fd : FuncData} {ps : List Str} {p : Pos} (F : FnOk X.prog X.w X.K X.mg X.base CX0 k f fd ps (spG pre As Mi R Mo)) (hr : Room k X.A) (hg : Gl X x) (hm : X.mg x = some (.ref f)) (hk : PySem.W.keepIn X.K (.ref f) = true) (hb : Binds X.K fd ps [])
    (y : α) (hy : As y = []) (hM : M = Mi y ++ Mf) (hpre : pre y) (had : ads (Mo y) = ads (Mi y)) (hdb : (x == ("__debug__" : Str)) = false := by decide) :
    XE X [] (.Call (.Name x p) [] [] pos) G M (R y) (Mo y ++ Mf) := by
  refine .of (pe_call0 F hr hg hm hk hb .nil pass0 hdb) (by rw [ads_app, had, ← ads_app, hM]) fun σ H H0 s l m Q k => ?_
  subst hM
  exact sp_use (E := E0) y hpre had s m (by rw [hy]; trivial) fun v H' H0' g m' p => k v H' H0' g m' p
/-- an instance of C that has no attribute m -/
def InsP (C : Addr) (m : Str) (P : VP) : Prop := ∀ v H, P.p v H → ∃ a dx fs, v = .ref a ∧ H a = some (.ins C dx fs) ∧ fs.lookup m = none
theorem xe_meth {α : Type} {pre : α → Prop} {As : α → List VP} {Mi Mo : α → Ml} {R : α → VP} {k : Nat} {C f : Addr} {fd : FuncData} {ps : List Str} {o : Expr} {es : List Expr} {Ps : List VP} {m : Str} {apos : Pos} {pl : Sem Bool} (ho : XE X [] o G M P M1) (hi : InsP C m P) (hcl : Cls X.K C) (hm : Meth X.K C m f) (F : FnOk X.prog X.w X.K X.mg X.base CX0 k f fd ps (spG pre As Mi R Mo)) (hr : Room k X.A) (hb : Binds X.K fd ps [])
    (y : α) (ha : XA X [] (e :: es) G M1 Ps (Mi y ++ Mf)) (hy : As y = P :: Ps) (hpre : pre y) (had : ads (Mo y) = ads (Mi y)) (hst : starEach (e :: es) X.env = (false, eval e X.env) :: starEach es X.env := by rfl) (hpl : (backTo pos (starEach es X.env)).any (·.1) = false := by rfl)
    (ht : eval (.Call (.Attribute o m apos) (e :: es) [] pos) X.env = (do
      let ov ← eval o X.env
      standAt apos.atName
      let (f, first) ← holding [ov] (getMethod ov m pl)
      callWith pos f first (backTo pos (starEach (e :: es) X.env)) (backToKw pos (keywordEach [] X.env))) := by rfl) :
    XE X [] (.Call (.Attribute o m apos) (e :: es) [] pos) G M (R y) (Mo y ++ Mf) := by
  refine .of (pe_meth pW hcl hm F hr hb .nil pass0 pWa hst hpl ht) (by rw [ads_app, had, ← ads_app]; exact ha.ad.trans ho.ad) fun σ H H0 s l mm Q k => ?_
  refine ho.then_ s l mm fun v H1 H01 g1 s1 l1 m1 p1 => ?_
  obtain ⟨q, dx, fs, ev, hq, hf⟩ := hi v H01 p1
  refine ⟨q, dx, fs, ev, s1.ins hq, hf, ?_⟩
  refine ha.then_ s1 l1 m1 fun vs H2 H02 g2 s2 l2 m2 p2 => ?_
  rw [List.append_nil]
  exact sp_use y hpre had s2 m2 (by rw [hy]; exact ⟨P.mono _ _ _ g2.pure p1, p2⟩) fun v H' H0' g m' p => k v H' H0' ((g1.tr (by rw [← ho.ad]; exact g2)).tr (by rw [← ho.ad, ← ha.ad]; exact g)) m' p
theorem xe_meth0 {α : Type} {pre : α → Prop} {As : α → List VP} {Mi Mo : α → Ml} {R : α → VP} {k : Nat} {C f : Addr} {fd : FuncData} {ps : List Str} {o : Expr} {m : Str} {apos : Pos} {pl : Sem Bool} (y : α) (ho : XE X [] o G M P (Mi y ++ Mf)) (hi : InsP C m P) (hcl : Cls X.K C) (hm : Meth X.K C m f) (F : FnOk X.prog X.w X.K X.mg X.base CX0 k f fd ps (spG pre As Mi R Mo)) (hr : Room k X.A) (hb : Binds X.K fd ps [])
    (hy : As y = [P]) (hpre : pre y) (had : ads (Mo y) = ads (Mi y)) 
    (ht : eval (.Call (.Attribute o m apos) [] [] pos) X.env = (do
      let ov ← eval o X.env
      standAt apos.atName
      let (f, first) ← holding [ov] (getMethod ov m pl)
      callWith pos f first (backTo pos (starEach [] X.env)) (backToKw pos (keywordEach [] X.env))) := by rfl) :
    XE X [] (.Call (.Attribute o m apos) [] [] pos) G M (R y) (Mo y ++ Mf) := by
  refine .of (pe_meth0 pW hcl hm F hr hb .nil pass0 ht) (by rw [ads_app, had, ← ads_app]; exact ho.ad) fun σ H H0 s l mm Q k => ?_
  refine ho.then_ s l mm fun v H1 H01 g1 s1 l1 m1 p1 => ?_
  obtain ⟨q, dx, fs, ev, hq, hf⟩ := hi v H01 p1
  refine ⟨q, dx, fs, ev, s1.ins hq, hf, ?_⟩
  exact sp_use (E := E0) y hpre had s1 m1 (by rw [hy]; exact ⟨p1, trivial⟩) fun v H' H0' g m' p => k v H' H0' (g1.tr (by rw [← ho.ad]; exact g)) m' p
/-- a built-in -/
theorem xe_callB {id : String} {r : List V → Hp → VK → Prop} {es : List Expr} {Ps : List VP} {p : Pos} (hc : CallR X (.builtin id) r) (hr : RC L r Ps P) (hg : Gl X x) (hm : X.mg x = none) (hv : bootBuiltins x = some (.builtin id)) (ha : XA X L (e :: es) G M Ps M1) (hn : x ≠ "__name__" := by decide) (hdb : (x == ("__debug__" : Str)) = false := by decide)
    (he : starEach (e :: es) X.env = (false, eval e X.env) :: starEach es X.env := by rfl) (hpl : (backTo pos (starEach es X.env)).any (·.1) = false := by rfl) : XE X L (.Call (.Name x p) (e :: es) [] pos) G M P M1 :=
  .of (pe_callB hc hg hm hv pWa hn hdb he hpl) ha.ad fun σ H H0 s l m Q k => ha.then_ s l m fun vs H1 H01 g1 s1 l1 m1 p1 => hr vs H1 H01 s1 p1 Q fun z H' H0' g' pz => k z H' H0' (g1.tr g'.nil) (m1.grow0 g') pz
theorem xe_callTy {id : String} {r : List V → Hp → VK → Prop} {es : List Expr} {Ps : List VP} {p : Pos} (hc : CallR X (.type id) r) (hr : RC L r Ps P) (hg : Gl X x) (hm : X.mg x = none) (hv : bootBuiltins x = some (.type id)) (ha : XA X L (e :: es) G M Ps M1) (hn : x ≠ "__name__" := by decide) (hdb : (x == ("__debug__" : Str)) = false := by decide)
    (he : starEach (e :: es) X.env = (false, eval e X.env) :: starEach es X.env := by rfl) (hpl : (backTo pos (starEach es X.env)).any (·.1) = false := by rfl) : XE X L (.Call (.Name x p) (e :: es) [] pos) G M P M1 :=
  .of (pe_callTy hc hg hm hv pWa hn hdb he hpl) ha.ad fun σ H H0 s l m Q k => ha.then_ s l m fun vs H1 H01 g1 s1 l1 m1 p1 => hr vs H1 H01 s1 p1 Q fun z H' H0' g' pz => k z H' H0' (g1.tr g'.nil) (m1.grow0 g') pz

/-! ### tests -/
theorem xt_val {k : Bool} (h : XE X L e G M (Vl (.bl k)) M1) (he : ∀ whole, isTrue e X.env whole = (do let v ← whole; standAt e.pos; holding [v] (truthy v)) := by intro _; rfl) : XT X L e G M (· = k) M1 :=
  .of (pt_val pW he) h.ad fun σ H H0 s l m Q q => h.then_ s l m fun v H1 H01 g1 s1 l1 m1 p1 => ⟨k, p1, q k H1 H01 g1 m1 rfl⟩
theorem xt_valX {p : Bool → Prop} (h : XE X L e G M (ExP p fun k => Vl (.bl k)) M1) (he : ∀ whole, isTrue e X.env whole = (do let v ← whole; standAt e.pos; holding [v] (truthy v)) := by intro _; rfl) : XT X L e G M p M1 :=
  .of (pt_val pW he) h.ad fun σ H H0 s l m Q q => h.then_ s l m fun v H1 H01 g1 s1 l1 m1 ⟨k, pk, p1⟩ => ⟨k, p1, q k H1 H01 g1 m1 pk⟩
theorem xt_cmp {op : CmpOp} {r : R2} {k : Bool} (ho : OpR X (compareOp op) r) (hr : RV L r P1 P2 (Vl (.bl k))) (ha : XE X L a G M P1 M1) (hb : XE X L b G M1 P2 M2) (hm : behindInMarks op b = false) : XT X L (.Compare a [op] [b] pos) G M (· = k) M2 :=
  .of (pt_cmpR ho pW pW hm) (hb.ad.trans ha.ad) fun σ H H0 s l m Q q => ha.then2 hb s l m fun x y H' H0' g s' _ m' p1 p2 => hr x y H' H0' s' p1 p2 _ fun z H'' H0'' g' pz => ⟨k, pz, q k H'' H0'' (g.tr g'.nil) (m'.grow0 g') rfl⟩
theorem xt_cmpX {op : CmpOp} {r : R2} {p : Bool → Prop} (ho : OpR X (compareOp op) r) (hr : RV L r P1 P2 (ExP p fun k => Vl (.bl k))) (ha : XE X L a G M P1 M1) (hb : XE X L b G M1 P2 M2) (hm : behindInMarks op b = false) : XT X L (.Compare a [op] [b] pos) G M p M2 :=
  .of (pt_cmpR ho pW pW hm) (hb.ad.trans ha.ad) fun σ H H0 s l m Q q => ha.then2 hb s l m fun x y H' H0' g s' _ m' p1 p2 => hr x y H' H0' s' p1 p2 _ fun z H'' H0'' g' ⟨k, pk, pz⟩ => ⟨k, pz, q k H'' H0'' (g.tr g'.nil) (m'.grow0 g') pk⟩
theorem xt_not {p : Bool → Prop} (h : XT X L a G M p M1) : XT X L (.UnaryOp .Not a pos) G M (fun k => p (!k)) M1 :=
  .of (pt_not pWt) h.ad fun σ H H0 s l m Q q => h.then_ s l m fun k H1 H01 g1 s1 l1 m1 p1 => q (!k) H1 H01 g1 m1 (by rw [Bool.not_not]; exact p1)
theorem xt_notk {k : Bool} (h : XT X L a G M (· = k) M1) : XT X L (.UnaryOp .Not a pos) G M (· = !k) M1 := (xt_not h).w fun b e => by
  rw [← e, Bool.not_not]
theorem xw_one {op : BoolOp} {p : Bool → Prop} (h : XT X L a G M p M1) : XW X L (.BoolOp op [a] pos) G M p M1 := by
  cases op with
  | And => exact .of (pw_and1 pWt) h.ad fun σ H H0 s l m Q q => h.then_ s l m fun k H1 H01 g1 s1 l1 m1 p1 => q k H1 H01 g1 m1 p1
  | Or => exact .of (pw_or1 pWt) h.ad fun σ H H0 s l m Q q => h.then_ s l m fun k H1 H01 g1 s1 l1 m1 p1 => q k H1 H01 g1 m1 p1
theorem xw_and {k k' : Bool} {es : List Expr} (h : XT X L a G M (· = k) M1) (h' : k = true → XW X L (.BoolOp .And (b :: es) pos) G M1 (· = k') M1) : XW X L (.BoolOp .And (a :: b :: es) pos) G M (· = (k && k')) M1 := by
  refine .of (pw_and pWt pWw) h.ad fun σ H H0 s l m Q q => h.then_ s l m fun d H1 H01 g1 s1 l1 m1 p1 => ?_
  subst p1
  cases d with
  | true =>
    rw [if_pos rfl]
    exact (h' rfl).then_ s1 l1 m1 fun d' H2 H02 g2 s2 l2 m2 p2 => q d' H2 H02 (g1.tr (by rw [← h.ad]; exact g2)) m2 (by rw [p2, Bool.true_and])
  | false =>
    rw [if_neg Bool.false_ne_true]
    exact q false H1 H01 g1 m1 rfl
theorem xw_or {k k' : Bool} {es : List Expr} (h : XT X L a G M (· = k) M1) (h' : k = false → XW X L (.BoolOp .Or (b :: es) pos) G M1 (· = k') M1) : XW X L (.BoolOp .Or (a :: b :: es) pos) G M (· = (k || k')) M1 := by
  refine .of (pw_or pWt pWw) h.ad fun σ H H0 s l m Q q => h.then_ s l m fun d H1 H01 g1 s1 l1 m1 p1 => ?_
  subst p1
  cases d with
  | true =>
    rw [if_pos rfl]
    exact q true H1 H01 g1 m1 rfl
  | false =>
    rw [if_neg Bool.false_ne_true]
    exact (h' rfl).then_ s1 l1 m1 fun d' H2 H02 g2 s2 l2 m2 p2 => q d' H2 H02 (g1.tr (by rw [← h.ad]; exact g2)) m2 (by rw [p2, Bool.false_or])
/-- and, or as values of truth values -/
theorem xe_one {op : BoolOp} (h : XE X L a G M P M1) : XE X L (.BoolOp op [a] pos) G M P M1 := .of (pe_one pW) h.ad fun σ H H0 s l m Q q => h.then_ s l m fun k H1 H01 g1 s1 l1 m1 p1 => q k H1 H01 g1 m1 p1
theorem xe_and {k k' : Bool} {es : List Expr} (h : XE X L a G M (Vl (.bl k)) M1) (h' : k = true → XE X L (.BoolOp .And (b :: es) pos) G M1 (Vl (.bl k')) M1) : XE X L (.BoolOp .And (a :: b :: es) pos) G M (Vl (.bl (k && k'))) M1 := by
  refine .of (pe_and pW pW) h.ad fun σ H H0 s l m Q q => h.then_ s l m fun d H1 H01 g1 s1 l1 m1 p1 => ⟨k, p1, ?_⟩
  cases k with
  | true =>
    rw [if_pos rfl]
    exact (h' rfl).then_ s1 l1 m1 fun d' H2 H02 g2 s2 l2 m2 p2 => q d' H2 H02 (g1.tr (by rw [← h.ad]; exact g2)) m2 (by rw [Bool.true_and]; exact p2)
  | false =>
    rw [if_neg Bool.false_ne_true]
    exact q _ H1 H01 g1 m1 rfl
theorem xe_not {k : Bool} (h : XE X L a G M (Vl (.bl k)) M1) : XE X L (.UnaryOp .Not a pos) G M (Vl (.bl (!k))) M1 := .of (pe_not pW) h.ad fun σ H H0 s l m Q q => h.then_ s l m fun d H1 H01 g1 s1 l1 m1 p1 => ⟨k, p1, q _ H1 H01 g1 m1 rfl⟩
/-- a op b op' c as a test, all known -/
theorem xt_chain {op op' : CmpOp} {r r' : R2} {k k' : Bool} (ho : OpR X (compareOp op) r) (ho' : OpR X (compareOp op') r') (hr : RV L r P1 P2 (Vl (.bl k))) (hr' : RV L r' P2 P3 (Vl (.bl k'))) (ha : XE X L a G M P1 M1) (hb : XE X L b G M1 P2 M1) (hc : XE X L c G M1 P3 M1)
    (hm : lastMarks [op, op'] [b, c] = false := by with_unfolding_all rfl) : XT X L (.Compare a [op, op'] [b, c] pos) G M (· = (k && k')) M1 := by
  refine .of (pt_chain ho ho' pW pW pW hm) ha.ad fun σ H H0 s l m Q q => ha.then2 hb s l m fun x y H' H0' g s' l' m' p1 p2 => hr x y H' H0' s' p1 p2 _ fun z H'' H0'' g' pz => ⟨k, pz, ?_⟩
  cases k with
  | true =>
    rw [if_pos rfl]
    exact hc.then_ g'.sub (l'.mono g'.pure) (m'.grow0 g') fun w H3 H03 g3 s3 l3 m3 p3 => hr' y w H3 H03 s3 (P2.mono _ _ _ (g'.pure.trans g3.pure) p2) p3 _ fun z' H4 H04 g4 pz' => ⟨k', pz', q k' H4 H04 (((g.tr g'.nil).tr (by rw [← ha.ad]; exact g3)).tr g4.nil) (m3.grow0 g4) (by rw [Bool.true_and])⟩
  | false =>
    rw [if_neg Bool.false_ne_true]
    exact ⟨false, rfl, q false H'' H0'' (g.tr g'.nil) (m'.grow0 g') rfl⟩
theorem xe_chain {op op' : CmpOp} {r r' : R2} {k k' : Bool} (ho : OpR X (compareOp op) r) (ho' : OpR X (compareOp op') r') (hr : RV L r P1 P2 (Vl (.bl k))) (hr' : RV L r' P2 P3 (Vl (.bl k'))) (ha : XE X L a G M P1 M1) (hb : XE X L b G M1 P2 M1) (hc : XE X L c G M1 P3 M1)
    (hm : lastMarks [op, op'] [b, c] = false := by with_unfolding_all rfl) : XE X L (.Compare a [op, op'] [b, c] pos) G M (Vl (.bl (k && k'))) M1 := by
  refine .of (pe_chain ho ho' pW pW pW hm) ha.ad fun σ H H0 s l m Q q => ha.then2 hb s l m fun x y H' H0' g s' l' m' p1 p2 => hr x y H' H0' s' p1 p2 _ fun z H'' H0'' g' pz => ⟨k, pz, ?_⟩
  cases k with
  | true =>
    rw [if_pos rfl]
    exact hc.then_ g'.sub (l'.mono g'.pure) (m'.grow0 g') fun w H3 H03 g3 s3 l3 m3 p3 => hr' y w H3 H03 s3 (P2.mono _ _ _ (g'.pure.trans g3.pure) p2) p3 _ fun z' H4 H04 g4 pz' => q z' H4 H04 (((g.tr g'.nil).tr (by rw [← ha.ad]; exact g3)).tr g4.nil) (m3.grow0 g4) (by rw [Bool.true_and]; exact pz')
  | false =>
    rw [if_neg Bool.false_ne_true]
    exact q _ H'' H0'' (g.tr g'.nil) (m'.grow0 g') rfl
/-- a value's truth -/
theorem xt_truth {k : Bool} (h : XE X L e G M P M1) (hk : ∀ v H H0, Sub L H0 H → P.p v H0 → TruV X.K v H k) (he : ∀ whole, isTrue e X.env whole = (do let v ← whole; standAt e.pos; holding [v] (truthy v)) := by intro _; rfl) : XT X L e G M (· = k) M1 :=
  .of (pt_truth pW he) h.ad fun σ H H0 s l m Q q => h.then_ s l m fun v H1 H01 g1 s1 l1 m1 p1 => ⟨k, hk v H1 H01 s1 p1, q k H1 H01 g1 m1 rfl⟩

/-! ### comprehensions -/
abbrev bk (X : Cx) (scope : Scope) (s : Shared) (H : Hp) (C : Addr) (cl : List (Str × Addr)) (fp : List Addr) : Cx := X.blk s H scope (compEnvC scope cl C X.env) fp
def wipeG (G : Gam) : List Nat → Gam
  | [] => G
  | v :: vs => (wipeG G vs).set v none
theorem SL.unset {G : Gam} {σ : St} {H : Hp} (h : SL G σ H) (j : Nat) : SL (G.set j none) (σ.set j none) H := by
  refine ⟨by rw [List.length_set, List.length_set, h.1], fun i P q => ?_⟩
  rw [List.getElem?_set] at q
  split at q
  · split at q <;> cases q
  · rename_i e
    obtain ⟨v, a, b⟩ := h.2 i P q
    exact ⟨v, by rw [List.getElem?_set_ne e]; exact a, b⟩
theorem SL.wipe {G : Gam} {σ : St} {H : Hp} (h : SL G σ H) : ∀ vs, SL (wipeG G vs) (L2.wipe σ vs) H
  | [] => h
  | v :: vs => (SL.wipe h vs).unset v
theorem wipe_at {σ : St} {i : Nat} : ∀ {vs : List Nat}, (L2.wipe σ vs)[i]? = if i ∈ vs then (if i < σ.length then some none else none) else σ[i]?
  | [] => by simp [L2.wipe]
  | v :: vs => by
    show ((L2.wipe σ vs).set v none)[i]? = _
    rw [List.getElem?_set, wipe_length, wipe_at (vs := vs)]
    by_cases e : v = i
    · subst e
      simp
    · rw [if_neg e]
      by_cases m : i ∈ vs
      · rw [if_pos m, if_pos (List.mem_cons_of_mem _ m)]
      · rw [if_neg m, if_neg (fun z => (List.mem_cons.mp z).elim (fun q => e q.symm) m)]
theorem wipe_eq {σ σ' : St} {vs js : List Nat} (hl : σ'.length = σ.length) (hj : ∀ j ∈ js, j ∈ vs) (h : ∀ j, j ∉ js → σ'[j]? = (L2.wipe σ vs)[j]?) : L2.wipe σ' vs = L2.wipe σ vs := by
  apply List.ext_getElem?
  intro i
  rw [wipe_at, wipe_at, hl]
  by_cases m : i ∈ vs
  · rw [if_pos m, if_pos m]
  · rw [if_neg m, if_neg m, h i fun z => m (hj i z), wipe_at, if_neg m]
structure XTs (X : Cx) (L : List Addr) (ifs : List Expr) (G : Gam) (M : Ml) (p : Bool → Prop) (M' : Ml) : Prop where
  ad : ads M' = ads M
  run : ∀ σ H H0, Sub L H0 H → SL G σ H0 → MO M H0 H → ∀ Q : Bool → Hp → Prop, (∀ b H' H0', Grow L (ads M) H0 H H0' H' → MO M' H0' H' → p b → Q b H') → ∀ pins s, Inv X pins σ H s →
    wpAny (model X.prog X.w) X.A (forIn ifs true fun c r => if r = true then do let ok ← isTrue c X.env (eval c X.env); pure (ForInStep.yield ok) else pure (ForInStep.yield r)) (TP X pins σ Q) X.xe s
theorem xts_nil : XTs X L [] G M (· = true) M := ⟨rfl, fun σ H H0 s l m Q q pins sh I => pts_nil.run pins sh σ H Q I (q true H H0 (.refl s) m rfl)⟩
theorem xts_one {p : Bool → Prop} (h : XT X L c G M p M') : XTs X L [c] G M p M' := ⟨h.ad, fun σ H H0 s l m Q q pins sh I => (pts_one pWt).run pins sh σ H Q I (h.run σ H H0 s l m Q q)⟩
def CLs (Ps : List VP) : CP := ⟨fun o H => ∃ vs, o = .lst vs ∧ AllP H vs Ps, fun _ _ _ e ⟨vs, h1, h2⟩ => ⟨vs, h1, h2.mono e⟩⟩
/-- e gives a new cell of C -/
structure XEm (X : Cx) (L : List Addr) (e : Expr) (G : Gam) (M : Ml) (C : CP) (M' : Ml) : Prop where
  ad : ads M' = ads M
  run : ∀ σ H H0, Sub L H0 H → SL G σ H0 → MO M H0 H → ∀ Q : VK, (∀ q H' H0', Grow L (ads M) H0 H H0' H' → MO (M' ++ [(q, C)]) H0' H' → H q = none → Q (.ref q) H') → tW X e σ H Q
/-- the cell is shut -/
theorem MO.shut {L A : List Addr} {H0 H H0' H' : Hp} {q : Addr} {C : CP} (m : MO (M' ++ [(q, C)]) H0' H') (g : Grow L A H0 H H0' H') (hq : H q = none) : ∃ o, C.p o H0' ∧ H' q = some o ∧ Grow L A H0 H (upd H0' q o) H' ∧ MO M' (upd H0' q o) H' ∧ Same H0' (upd H0' q o) := by
  obtain ⟨h1, o, h2, h3⟩ := m.2 (q, C) (List.mem_append_right _ (List.mem_singleton.mpr rfl))
  have h1 : H0' q = none := h1
  have h2 : H' q = some o := h2
  have sm : Same H0' (upd H0' q o) := fun b u e => by
    rw [upd_ne (ne_of_none e h1)]
    exact e
  refine ⟨o, h3, h2, ⟨g.pure.trans sm, ⟨fun a u e => ?_, fun a ha => ?_⟩, g.keep, fun b nb => ?_, g.live⟩, ?_, sm⟩
  · by_cases z : a = q
    · subst z
      rw [upd_same] at e
      cases e
      exact .inl ⟨fun hl => g.sub.lk a hl h1, h2⟩
    · rw [upd_ne z] at e
      exact g.sub.at_ a u e
  · by_cases z : a = q
    · rw [z, upd_same]
      simp
    · rw [upd_ne z]
      exact g.sub.lk a ha
  · by_cases z : b = q
    · rw [z]
      exact .inr hq
    · rw [upd_ne z] at nb
      exact g.new b nb
  · refine ⟨m.left.1, fun c hc => ?_⟩
    obtain ⟨k1, u, k2, k3⟩ := m.left.2 c hc
    have ne : c.1 ≠ q := fun z => m.disj c.1 (List.mem_map.mpr ⟨c, hc, rfl⟩) (by rw [z]; simp [ads])
    exact ⟨by rw [upd_ne ne]; exact k1, u, k2, c.2.mono _ _ _ sm k3⟩
theorem XEm.xe {C : CP} (h : XEm X L e G M C M') (hC : ∀ q o H, C.p o H → H q = some o → P.p (.ref q) H) : XE X L e G M P M' := ⟨h.ad, fun σ H H0 s l m Q k => h.run σ H H0 s l m Q fun q H' H0' g m' hq => by
  obtain ⟨o, h3, h2, g', m'', sm⟩ := m'.shut g hq
  exact k _ H' _ g' m'' (hC q o _ (C.mono _ _ _ sm h3) upd_same)⟩
theorem XEm.ls {Ps : List VP} (h : XEm X L e G M (CLs Ps) M') : XE X L e G M (Ls Ps) M' := h.xe fun q o H ⟨vs, e, hv⟩ hq => ⟨q, vs, rfl, by rw [hq, e], hv⟩
theorem XEm.w {C C' : CP} (h : XEm X L e G M C M') (hw : ∀ o H, C.p o H → C'.p o H) : XEm X L e G M C' M' := ⟨h.ad, fun σ H H0 s l m Q k => h.run σ H H0 s l m Q fun q H' H0' g m' hq => k q H' H0' g ⟨by rw [ads_app] at *; have := m'.1; rw [ads_app] at this; exact this, fun c hc => by
  rcases List.mem_append.mp hc with z | z
  · exact m'.2 c (List.mem_append_left _ z)
  · have z := List.mem_singleton.mp z
    subst z
    obtain ⟨h1, o, h2, h3⟩ := m'.2 (q, C) (List.mem_append_right _ (List.mem_singleton.mpr rfl))
    exact ⟨h1, o, h2, hw _ _ h3⟩⟩ hq⟩
/-- the cell at the end is written -/
theorem MO.write {q : Addr} {C C' : CP} {H0 H : Hp} {o : HO} (m : MO (M ++ [(q, C)]) H0 H) (h : C'.p o H0) : MO (M ++ [(q, C')]) H0 (upd H q o) := by
  refine ⟨by have := m.1; rw [ads_app] at this ⊢; exact this, fun c hc => ?_⟩
  rcases List.mem_append.mp hc with z | z
  · obtain ⟨k1, u, k2, k3⟩ := m.2 c (List.mem_append_left _ z)
    have ne : c.1 ≠ q := fun y => m.disj c.1 (List.mem_map.mpr ⟨c, z, rfl⟩) (by rw [y]; simp [ads])
    exact ⟨k1, u, by rw [upd_ne ne]; exact k2, k3⟩
  · have z := List.mem_singleton.mp z
    subst z
    obtain ⟨h1, _⟩ := m.2 (q, C) (List.mem_append_right _ (List.mem_singleton.mpr rfl))
    exact ⟨h1, o, upd_same, h⟩
theorem Grow.write {L A : List Addr} {B0 Bh H0 H : Hp} {q : Addr} {o : HO} (g : Grow L A B0 Bh H0 H) (hq : H0 q = none) (ha : q ∈ A ∨ Bh q = none) : Grow L A B0 Bh H0 (upd H q o) := by
  refine ⟨g.pure, ⟨fun a u e => ?_, g.sub.lk⟩, fun b u e nb => ?_, g.new, fun b nb => ?_⟩
  · rw [upd_ne (ne_of_none e hq)]
    exact g.sub.at_ a u e
  · have ne : b ≠ q := fun z => by
      subst z
      rcases ha with z | z
      · exact nb z
      · rw [e] at z
        cases z
    rw [upd_ne ne]
    exact g.keep b u e nb
  · by_cases z : b = q
    · rw [z, upd_same]
      simp
    · rw [upd_ne z]
      exact g.live b nb
theorem MO.frame1 {L : List Addr} {H0 H H0' H' : Hp} {c : Addr × CP} (m : MO (M ++ [c]) H0 H) (g : Grow L (ads M) H0 H H0' H') (m' : MO M1 H0' H') (ha : ads M1 = ads M) : MO (M1 ++ [c]) H0' H' := m.join g m' ha
/-- a comprehension as an expression and as a name's value -/
structure XLc (X : Cx) (L : List Addr) (elt tg iter : Expr) (ifs : List Expr) (scope : Scope) (G : Gam) (M : Ml) (C : CP) (M' : Ml) : Prop where
  ad : ads M' = ads M
  run : ∃ t : TE, (∀ pos, PE X (.ListComp elt [⟨tg, iter, ifs, 0⟩] scope pos) t) ∧
    (∀ (i : Nat) (y : Str) (py pos spos : Pos), X.N[i]? = some y → X.env.scope.names.lookup y = some .local → swapsWith (.ListComp elt [⟨tg, iter, ifs, 0⟩] scope pos) (some (.Name y py)) spos.line X.env = pure true → PS X (.Assign [.Name y py] (.ListComp elt [⟨tg, iter, ifs, 0⟩] scope pos) spos) (tAsg t (gName i))) ∧
    ∀ σ H H0, Sub L H0 H → SL G σ H0 → MO M H0 H → ∀ Q : VK, (∀ q H' H0', Grow L (ads M) H0 H H0' H' → MO (M' ++ [(q, C)]) H0' H' → H q = none → Q (.ref q) H') → t σ H Q
theorem XLc.xem {elt : Expr} {ifs : List Expr} {scope : Scope} {C : CP} (h : XLc X L elt tg iter ifs scope G M C M') : XEm X L (.ListComp elt [⟨tg, iter, ifs, 0⟩] scope pos) G M C M' := by
  obtain ⟨t, h1, _, h3⟩ := h.run
  exact ⟨h.ad, fun σ H H0 s l m Q k pins sh I => (h1 pos).run pins sh σ H Q I (h3 σ H H0 s l m Q k)⟩
theorem xlc {ι : Type} {elt : Expr} {ifs : List Expr} {scope : Scope} {own : List (Str × Nat)} {Ps : List VP} {C : CP} (hc : X.calm = true) (hN : X.N.Nodup) (hi : XI X L tg iter G M Ps M1 Mw) (ok : BlkOk X.N X.env.scope scope own)
    (f : Nat → ι → Prop) (Ms : Nat → ι → Ml) (acc : Nat → ι → List VP)
    (h0 : ∃ a, f 0 a ∧ acc 0 a = [] ∧ ads (Ms 0 a) = ads M1 ∧ ∀ H0 H, MO M1 H0 H → MO (Ms 0 a) H0 H)
    (hm : ∀ i a, i ≤ Ps.length → f i a → (acc i a).length < sizeLine ∧ ads (Ms i a) = ads M ∧ ∀ H0 H, MO (Ms i a) H0 H → MO Mw H0 H)
    (hs : ∀ i a P, Ps[i]? = some P → f i a → ∃ js G2 p M2, (∀ j ∈ js, j ∈ own.map (·.2)) ∧ (∀ s H C cl fp, XG1 (bk X scope s H C cl fp) L tg js P (wipeG G (own.map (·.2))) G2) ∧ (∀ s H C cl fp, XTs (bk X scope s H C cl fp) L ifs G2 (Ms i a) p M2) ∧
      (p true → ∃ R a', f (i + 1) a' ∧ acc (i + 1) a' = acc i a ++ [R] ∧ ∀ s H C cl fp, XE (bk X scope s H C cl fp) L elt G2 M2 R (Ms (i + 1) a')) ∧ (p false → ∃ a', f (i + 1) a' ∧ acc (i + 1) a' = acc i a ∧ Ms (i + 1) a' = M2))
    (hd : ∀ a, f Ps.length a → ∀ q H0 H, MO (Ms Ps.length a ++ [(q, CLs (acc Ps.length a))]) H0 H → MO (M' ++ [(q, C)]) H0 H) (had : ads M' = ads M)
    (hfs : ∀ x, foldedSetIterable iter X.env x = pure x := by intro _; rfl) : XLc X L elt tg iter ifs scope G M C M' := by
  obtain ⟨wi, hwi, hrun⟩ := hi.run
  let g : TG := fun v σ H Q => ∀ s Hb C cl fp, tWg (bk X scope s Hb C cl fp) tg v σ H Q
  let tt : TT := fun σ H Q => ∀ s Hb C cl fp pins sh, Inv (bk X scope s Hb C cl fp) pins σ H sh →
    wpAny (model X.prog X.w) X.A (forIn ifs true fun c r => if r = true then do let ok ← isTrue c (bk X scope s Hb C cl fp).env (eval c (bk X scope s Hb C cl fp).env); pure (ForInStep.yield ok) else pure (ForInStep.yield r)) (TP (bk X scope s Hb C cl fp) pins σ Q) (bk X scope s Hb C cl fp).xe sh
  let te : TE := fun σ H Q => ∀ s Hb C cl fp, tW (bk X scope s Hb C cl fp) elt σ H Q
  refine ⟨had, tLc wi g tt te (own.map (·.2)), fun pos => pe_lc hc hN hwi ok (fun s Hb C cl fp => ⟨fun pins sh σ H v u Q I r h => h s Hb C cl fp pins sh u I r⟩) (fun s Hb C cl fp => ⟨fun pins sh σ H Q I h => h s Hb C cl fp pins sh I⟩) (fun s Hb C cl fp => ⟨fun pins sh σ H Q I h => h s Hb C cl fp pins sh I⟩) hfs,
    fun i y py pos spos hy hyl hsw => ps_setLc hc hN hy hyl hsw hwi ok (fun s Hb C cl fp => ⟨fun pins sh σ H v u Q I r h => h s Hb C cl fp pins sh u I r⟩) (fun s Hb C cl fp => ⟨fun pins sh σ H Q I h => h s Hb C cl fp pins sh I⟩) (fun s Hb C cl fp => ⟨fun pins sh σ H Q I h => h s Hb C cl fp pins sh I⟩) hfs,
    fun σ H H0 s l m Q k => hrun σ H H0 s l m _ fun J H1 H01 Gd Y g1 m1 w hG hY D hD => ?_⟩
  have hD0 : H01 D = none := g1.sub.no hD
  refine lc_it w (fun i H' => ∃ a H0', f i a ∧ Grow L (ads M1) H01 H1 H0' H' ∧ MO (Ms i a ++ [(D, CLs (acc i a))]) H0' H') ?_ ?_ ?_ ?_
  · obtain ⟨a, fa, ea, ha, hmo⟩ := h0
    refine ⟨a, H01, fa, ?_, ?_⟩
    · have g2 : Grow L (ads M1) H01 H1 H01 H1 := .refl g1.sub
      exact g2.write hD0 (.inr hD)
    · have mm := hmo _ _ m1
      refine ⟨?_, fun c hc => ?_⟩
      · rw [ads_app]
        refine List.nodup_append.mpr ⟨mm.1, by simp [ads], fun x hx y hy e => ?_⟩
        have hy : y = D := by simpa [ads] using hy
        subst hy e
        exact (mm.at_ hx).2 hD
      · rcases List.mem_append.mp hc with z | z
        · obtain ⟨k1, u, k2, k3⟩ := mm.2 c z
          exact ⟨k1, u, by rw [upd_ne (ne_of_none k2 hD)]; exact k2, k3⟩
        · have z := List.mem_singleton.mp z
          subst z
          exact ⟨hD0, _, upd_same, [], rfl, by rw [ea]; trivial⟩
  · rintro i H' hi' ⟨a, H0', fa, g', m'⟩
    exact hG H' H0' g' ((hm i a hi' fa).2.2 _ _ m'.left)
  · rintro i z H' H'' hi' ⟨a, H0', fa, g', m'⟩ hy
    obtain ⟨hsz, hadM, _⟩ := hm i a (Nat.le_of_lt hi') fa
    have fr : ∀ b ∈ ads (Ms i a), b ∈ ads M1 ∨ H1 b = none := fun b hb => .inl (by rw [hi.ad, ← hadM]; exact hb)
    obtain ⟨H0y, P, gy, hP, pz⟩ := hY i H' z H'' H0' hi' g' hy
    obtain ⟨js, G2, p, M2, hjs, hg2, ht2, htrue, hfalse⟩ := hs i a P hP fa
    have m2 : MO (Ms i a ++ [(D, CLs (acc i a))]) H0y H'' := m'.grow0 gy
    have gY : Grow L (ads M1) H01 H1 H0y H'' := g'.tr gy.nil
    have lw : SL (wipeG G (own.map (·.2))) (L2.wipe σ (own.map (·.2))) H0y := ((l.mono g1.pure).mono gY.pure).wipe _
    intro s' Hb C' cl fp
    refine (hg2 s' Hb C' cl fp).run z _ H'' H0y gy.sub lw pz _ fun σ2 l2 e2 k2 => ⟨?_, ?_⟩
    · refine wipe_eq ?_ hjs k2
      rw [e2, wipe_length]
    · intro s' Hb C' cl fp pins' sh' I'
      refine (ht2 s' Hb C' cl fp).run σ2 H'' H0y gy.sub l2 m2.left _ (fun b H3 H03 g3 m3 pb => ?_) pins' sh' I'
      have m3' : MO (M2 ++ [(D, CLs (acc i a))]) H03 H3 := m2.join g3 m3 (ht2 s' Hb C' cl fp).ad
      have gT : Grow L (ads M1) H01 H1 H03 H3 := gY.trans g3 fr
      cases b with
      | true =>
        rw [if_pos rfl]
        obtain ⟨R, a', fa', eacc, hte⟩ := htrue pb
        intro s' Hb C' cl fp
        refine (hte s' Hb C' cl fp).run σ2 H3 H03 g3.sub (l2.mono g3.pure) m3'.left _ fun y H4 H04 g4 m4 py => ?_
        have m4' : MO (Ms (i + 1) a' ++ [(D, CLs (acc i a))]) H04 H4 := m3'.join g4 m4 (hte s' Hb C' cl fp).ad
        obtain ⟨q1, o, q2, vs, ev, hvs⟩ := m4'.2 (D, CLs (acc i a)) (List.mem_append_right _ (List.mem_singleton.mpr rfl))
        have q2 : H4 D = some o := q2
        subst ev
        refine ⟨vs, q2, by rw [hvs.len]; exact hsz, a', H04, fa', ?_, ?_⟩
        · have gE : Grow L (ads M1) H01 H1 H04 H4 := gT.trans g4 fun b hb => fr b (by rw [(ht2 s' Hb C' cl fp).ad] at hb; exact hb)
          exact gE.write q1 (.inr hD)
        · exact m4'.write ⟨_, rfl, by rw [eacc]; exact hvs.app (AllP.one py)⟩
      | false =>
        rw [if_neg Bool.false_ne_true]
        obtain ⟨a', fa', eacc, em⟩ := hfalse pb
        exact ⟨a', H03, fa', gT, by rw [eacc, em]; exact m3'⟩
  · rintro H' ⟨a, H0', fa, g', m'⟩
    have hDn : H D = none := by
      cases q : H D with
      | none => rfl
      | some o => exact absurd hD (g1.live D (by rw [q]; simp))
    refine k D H' H0' (g1.trans g' fun b hb => .inl (by rw [hi.ad] at hb; exact hb)) (hd a fa D _ _ m') hDn
/-- a map with a test, no cells turned -/
theorem xlcF {α : Type} {elt : Expr} {ifs : List Expr} {scope : Scope} {own : List (Str × Nat)} (js : List Nat) (G2 : α → Gam) (xs : List α) (R R' : α → VP) (q : α → Bool) (hc : X.calm = true) (hN : X.N.Nodup) (hi : XI X L tg iter G M (xs.map R) M1 Mw) (ok : BlkOk X.N X.env.scope scope own) (hw : ∀ H0 H, MO M1 H0 H → MO Mw H0 H)
    (hl : xs.length < sizeLine) (hj : ∀ j ∈ js, j ∈ own.map (·.2)) (hg : ∀ x ∈ xs, ∀ s H C cl fp, XG1 (bk X scope s H C cl fp) L tg js (R x) (wipeG G (own.map (·.2))) (G2 x))
    (ht : ∀ x ∈ xs, ∀ s H C cl fp, XTs (bk X scope s H C cl fp) L ifs (G2 x) M1 (· = q x) M1) (he : ∀ x ∈ xs, q x = true → ∀ s H C cl fp, XE (bk X scope s H C cl fp) L elt (G2 x) M1 (R' x) M1)
    (hfs : ∀ x, foldedSetIterable iter X.env x = pure x := by intro _; rfl) : XLc X L elt tg iter ifs scope G M (CLs ((xs.filter q).map R')) M1 := by
  refine xlc (ι := Unit) hc hN hi ok (fun _ _ => True) (fun _ _ => M1) (fun i _ => ((xs.take i).filter q).map R') ⟨(), trivial, by simp, rfl, fun _ _ h => h⟩ (fun i _ _ _ => ⟨?_, hi.ad, hw⟩) (fun i _ P hP _ => ?_) (fun _ _ p H0 H m => ?_) hi.ad hfs
  · rw [List.length_map]
    exact Nat.lt_of_le_of_lt (Nat.le_trans (List.length_filter_le ..) (by rw [List.length_take]; omega)) hl
  · rw [List.getElem?_map] at hP
    cases e : xs[i]? with
    | none =>
      rw [e] at hP
      cases hP
    | some x =>
      rw [e] at hP
      have hP : R x = P := Option.some.inj hP
      subst hP
      have hx : x ∈ xs := List.mem_of_getElem? e
      have et : xs.take (i + 1) = xs.take i ++ [x] := by
        rw [List.take_add_one, e]
        rfl
      refine ⟨js, G2 x, (· = q x), M1, hj, hg x hx, ht x hx, fun qt => ⟨R' x, (), trivial, ?_, he x hx qt.symm⟩, fun qf => ⟨(), trivial, ?_, rfl⟩⟩
      · rw [et, List.filter_append, List.map_append, List.filter_cons, if_pos qt.symm]
        rfl
      · rw [et, List.filter_append, List.map_append, List.filter_cons, if_neg (by rw [← qf]; decide)]
        simp
  · have hlen : ((List.map R xs).length) = xs.length := List.length_map ..
    rw [hlen, List.take_length] at m
    exact m
/-- a map -/
theorem xlcM {α : Type} {elt : Expr} {scope : Scope} {own : List (Str × Nat)} (js : List Nat) (G2 : α → Gam) (xs : List α) (R R' : α → VP) (hc : X.calm = true) (hN : X.N.Nodup) (hi : XI X L tg iter G M (xs.map R) M1 Mw) (ok : BlkOk X.N X.env.scope scope own) (hw : ∀ H0 H, MO M1 H0 H → MO Mw H0 H)
    (hl : xs.length < sizeLine) (hj : ∀ j ∈ js, j ∈ own.map (·.2)) (hg : ∀ x ∈ xs, ∀ s H C cl fp, XG1 (bk X scope s H C cl fp) L tg js (R x) (wipeG G (own.map (·.2))) (G2 x))
    (he : ∀ x ∈ xs, ∀ s H C cl fp, XE (bk X scope s H C cl fp) L elt (G2 x) M1 (R' x) M1)
    (hfs : ∀ x, foldedSetIterable iter X.env x = pure x := by intro _; rfl) : XLc X L elt tg iter [] scope G M (CLs (xs.map R')) M1 := by
  have h := xlcF (elt := elt) (ifs := []) js G2 xs R R' (fun _ => true) hc hN hi ok hw hl hj hg (fun _ _ _ _ _ _ _ => xts_nil) (fun x hx _ => he x hx) hfs
  rw [List.filter_eq_self.mpr (fun _ _ => rfl)] at h
  exact h
theorem XLc.ls {elt : Expr} {ifs : List Expr} {scope : Scope} {Ps : List VP} (h : XLc X L elt tg iter ifs scope G M (CLs Ps) M') : XE X L (.ListComp elt [⟨tg, iter, ifs, 0⟩] scope pos) G M (Ls Ps) M' := h.xem.ls
/-- y = [..]: a list that stays -/
theorem xs_lc {elt : Expr} {ifs : List Expr} {scope : Scope} {Ps : List VP} {py spos : Pos} {rest : List Stmt} {B : Bs} {D : Ends} (h : XLc X L elt tg iter ifs scope G M (CLs Ps) M') (hy : X.N[i]? = some x) (hyl : X.env.scope.names.lookup x = some .local)
    (hr : XS X L rest B (G.set i (some (Ls Ps))) M' D) (hsw : swapsWith (.ListComp elt [⟨tg, iter, ifs, 0⟩] scope pos) (some (.Name x py)) spos.line X.env = pure true) : XS X L (.Assign [.Name x py] (.ListComp elt [⟨tg, iter, ifs, 0⟩] scope pos) spos :: rest) B G M D := by
  obtain ⟨t, _, h2, h3⟩ := h.run
  refine xs_of (h2 i x py pos spos hy hyl hsw) fun σ H ⟨H0, g, l, m, f⟩ => h3 σ H H0 g.sub l m _ fun q H1 H01 g1 m1 hq => ?_
  obtain ⟨o, ⟨vs, eo, hv⟩, hH, g2, m2, sm⟩ := m1.shut g1 hq
  subst eo
  exact hr.run _ H1 ⟨_, g.trans g2 f, SL.set (l.mono g2.pure) ⟨q, vs, rfl, upd_same, hv.mono sm⟩, m2, by rw [h.ad]; exact f⟩
/-- y = [..]: a list that will be changed -/
theorem xs_lcm {elt : Expr} {ifs : List Expr} {scope : Scope} {C : CP} {py spos : Pos} {rest : List Stmt} {B : Bs} {D : Ends} (h : XLc X L elt tg iter ifs scope G M C M') (hy : X.N[i]? = some x) (hyl : X.env.scope.names.lookup x = some .local)
    (hr : ∀ q, XS X L rest B (G.set i (some (Rf q))) (M' ++ [(q, C)]) D) (hsw : swapsWith (.ListComp elt [⟨tg, iter, ifs, 0⟩] scope pos) (some (.Name x py)) spos.line X.env = pure true) : XS X L (.Assign [.Name x py] (.ListComp elt [⟨tg, iter, ifs, 0⟩] scope pos) spos :: rest) B G M D := by
  obtain ⟨t, _, h2, h3⟩ := h.run
  refine xs_of (h2 i x py pos spos hy hyl hsw) fun σ H ⟨H0, g, l, m, f⟩ => h3 σ H H0 g.sub l m _ fun q H1 H01 g1 m1 hq => ?_
  refine (hr q).run _ H1 ⟨H01, g.trans g1 f, SL.set (l.mono g1.pure) rfl, m1, fun b hb => ?_⟩
  rw [ads_app, h.ad] at hb
  rcases List.mem_append.mp hb with z | z
  · exact f b z
  · have z : b = q := by simpa [ads] using z
    subst z
    cases e : B.h b with
    | none => exact .inr rfl
    | some o => exact absurd hq (g.live b (by rw [e]; simp))
/-- y = e: a new cell -/
theorem xs_setm {C : CP} {pos' : Pos} {rest : List Stmt} {B : Bs} {D : Ends} (he : XEm X L e G M C M1) (hN : X.N.Nodup) (hi : X.N[i]? = some x) (hx : Loc X.env.scope x) (hr : ∀ q, XS X L rest B (G.set i (some (Rf q))) (M1 ++ [(q, C)]) D) (hs : swapsWith e (some (.Name x pos')) pos.line X.env = pure false := by rfl)
    (hf : X.fn x = true ∨ X.env.scope.names.lookup x = some .local := by first | exact .inl rfl | exact .inr rfl | assumption) : XS X L (.Assign [.Name x pos'] e pos :: rest) B G M D :=
  xs_of (ps_set hN hi hx pW hs hf) fun σ H ⟨H0, g, l, m, f⟩ => he.run σ H H0 g.sub l m _ fun q H1 H01 g1 m1 hq => by
    refine (hr q).run _ H1 ⟨H01, g.trans g1 f, SL.set (l.mono g1.pure) rfl, m1, fun b hb => ?_⟩
    rw [ads_app, he.ad] at hb
    rcases List.mem_append.mp hb with z | z
    · exact f b z
    · have z : b = q := by simpa [ads] using z
      subst z
      cases e : B.h b with
      | none => exact .inr rfl
      | some o => exact absurd hq (g.live b (by rw [e]; simp))
/-- [a, b] as a new cell -/
theorem xem_lst {es : List Expr} {Ps : List VP} (h : XA X L es G M Ps M1) (hl : Ps.length ≤ sizeLine) : XEm X L (.List es pos) G M (CLs Ps) M1 := ⟨h.ad, fun σ H H0 s l m Q k pins sh I => (pe_lst (pWa (X := X) (es := es))).run pins sh σ H Q I (h.then_ s l m fun vs H1 H01 g1 s1 l1 m1 p1 => ⟨by rw [p1.len]; exact hl, fun p hp => by
  have h0 : H01 p = none := s1.no hp
  have hpn : H p = none := by
    cases e : H p with
    | none => rfl
    | some o => exact absurd hp (g1.live p (by rw [e]; simp))
  refine k p _ H01 (g1.write h0 (.inr hpn)) ⟨?_, fun c hc => ?_⟩ hpn
  · rw [ads_app]
    refine List.nodup_append.mpr ⟨m1.1, by simp [ads], fun x hx y hy e => ?_⟩
    have hy : y = p := by simpa [ads] using hy
    subst hy e
    exact (m1.at_ hx).2 hp
  · rcases List.mem_append.mp hc with z | z
    · obtain ⟨k1, u, k2, k3⟩ := m1.2 c z
      exact ⟨k1, u, by rw [upd_ne (ne_of_none k2 hp)]; exact k2, k3⟩
    · have z := List.mem_singleton.mp z
      subst z
      exact ⟨h0, _, upd_same, vs, rfl, p1⟩⟩)⟩
/-- a slot forgotten -/
theorem stA.unset {B : Bs} {σ : St} {H : Hp} (h : stA L B G M σ H) (j : Nat) : stA L B (G.set j none) M σ H := by
  obtain ⟨H0, g, l, m, f⟩ := h
  refine ⟨H0, g, l.weak (List.length_set ..) fun i P q => ?_, m, f⟩
  rw [List.getElem?_set] at q
  split at q
  · split at q <;> cases q
  · exact ⟨P, q, fun _ h => h⟩
end
end Y
/-! text Y3 -/
set_option Elab.async false
set_option linter.all false
set_option maxRecDepth 100000
namespace Y
open PySem PySem.Spec PyProof.Rows L2
/-! ### a def's body -/
def startG (N : List Str) (Ps : List VP) : Gam := Ps.map some ++ List.replicate (N.length - Ps.length) none
theorem start_SL {N : List Str} {H : Hp} {vs : List V} {Ps : List VP} (h : AllP H vs Ps) : SL (startG N Ps) (L2.start N vs) H := by
  have hl := h.len
  refine ⟨by simp [startG, L2.start, hl], fun i P q => ?_⟩
  unfold startG at q
  unfold L2.start
  by_cases hi : i < Ps.length
  · rw [List.getElem?_append_left (by simpa using hi), List.getElem?_map] at q
    cases e : Ps[i]? with
    | none =>
      rw [e] at q
      cases q
    | some R =>
      rw [e] at q
      have e2 : R = P := Option.some.inj (Option.some.inj q)
      subst e2
      obtain ⟨v, a, b⟩ := h.get e
      exact ⟨v, by rw [List.getElem?_append_left (by rw [List.length_map, hl]; exact hi), List.getElem?_map, a]; rfl, b⟩
  · rw [List.getElem?_append_right (by simpa using hi)] at q
    rw [List.getElem?_replicate] at q
    split at q <;> cases q
abbrev dX (P : Program) (w : World) (K : PySem.W.Frag) (mg : Str → Option Value) (base : Heap) (N : List Str) (qual : Str) (st : Stmt) (f : Addr) (cdv : Value) (A : Around) (outer : List Env) (s : Shared) (H : Hp) (E : XK) : Cx := (cxOf CX0 P w K mg base N qual (defScope st) f cdv A outer s H E).nox
abbrev dA (qual : Str) (st : Stmt) (f : Addr) (cdv : Value) (A : Around) (s : Shared) : Around := A.deeper (envOfC qual (defScope st) s.heap.objs.size f cdv)
section
variable {P : Program} {w : World} {K : PySem.W.Frag} {mg : Str → Option Value} {base : Heap}
theorem fn_ok {α : Type} {pre : α → Prop} {As : α → List VP} {Mi Mo : α → Ml} {R : α → VP} {x qual : Str} {st : Stmt} {f : Addr} {fd : FuncData} {N ps : List Str} {k : Nat} (F : Fun K x qual st f fd) (S : FnScope N ps (defScope st)) (hl : ∀ a, pre a → (As a).length = ps.length)
    (h : ∀ a, pre a → ∀ (cdv : Value) (A : Around) (outer : List Env) (s : Shared) (H : Hp) (E : XK) (B : Bs) (D : Ends), B.A = ads (Mi a) → Room k (dA qual st f cdv A s) → (∀ v H, rtA [] B (R a) (Mo a) v H → D.rt v H) → (∀ σ H, D.rt .non H → D.nx σ H) →
      XS (dX P w K mg base N qual st f cdv A outer s H E) [] (defBody st) B (startG N (As a)) (Mi a) D) : FnOk P w K mg base CX0 (k + 1) f fd ps (spG pre As Mi R Mo) := by
  refine F.ok S (fun vs H Q E ⟨a, H0, pa, _, hv, _⟩ => hv.len.trans (hl a pa)) fun cdv A outer s H vs Q E hr ⟨a, H0, pa, sb, hv, mo, k⟩ => ?_
  have hb := h a pa cdv A outer s H E ⟨H0, H, ads (Mi a)⟩ { nx := fun _ H' => Q .non H', rt := Q } rfl hr (fun v H' ⟨H0', g, p, m⟩ => k v H' H0' g m p) (fun _ _ q => q)
  exact ⟨_, pWs, hb.run _ H ⟨H0, .refl sb, start_SL hv, mo, fun b hb => .inl hb⟩⟩
end
section
variable {X : Cx} {L : List Addr} {G : Gam} {M M' M1 : Ml} {P P' : VP} {pos : Pos} {x : Str} {B : Bs} {D : Ends} {rest : List Stmt} {e : Expr}
theorem v (i : Nat) (h : G[i]? = some (some P) := by rfl) (hN : X.N[i]? = some x := by rfl) (hv : Vis X.env.scope x := by first | exact Or.inl rfl | exact Or.inr (Or.inl rfl) | exact Or.inr (Or.inr rfl)) (hd : (x == ("__debug__" : Str)) = false := by decide) (hcd : (x == ("__classdict__" : Str)) = false := by decide) : XE X L (.Name x pos) G M P M := xe_var h hN hv hd hcd
/-- return e, what is wanted -/
theorem xs_done {Mo : Ml} (hr : ∀ v H, rtA L B P' Mo v H → D.rt v H) (he : XE X L e G M P M1) (hw : ∀ v H, P.p v H → P'.p v H := by exact fun _ _ h => h) (hm : ∀ H0 H, MO M1 H0 H → MO Mo H0 H := by exact fun _ _ h => h) : XS X L (.Return (some e) pos :: rest) B G M D := xs_ret he fun v H h => hr v H (h.imp hw hm)
end
/-- a list of ints -/
def IL (xs : List Int) : VP := Ls (xs.map fun i => Vl (.int i))
/-- a list of lists of ints -/
def ILL (xss : List (List Int)) : VP := Ls (xss.map IL)
def top (i : Nat) : Stmt := PySem.Challenge.pw_crateround_k29_whole_loans.main.body.getD i (.Pass ⟨0, 0, 0, 0⟩)
end Y
/-! text Ma -/
set_option linter.all false
namespace Mt
/-! Rows of ints, their spans, clearing a column. -/
abbrev Row := List Int
def at_ (r : Row) (j : Nat) : Int := r.getD j 0
def plusT (x : Row) (k : Int) (y : Row) : Row := List.zipWith (fun a b => a + k * b) x y
theorem at_plus {x y : Row} {k : Int} (h : x.length = y.length) (j : Nat) : at_ (plusT x k y) j = at_ x j + k * at_ y j := by
  unfold at_ plusT
  rw [List.getD_eq_getElem?_getD, List.getD_eq_getElem?_getD, List.getD_eq_getElem?_getD, List.getElem?_zipWith]
  cases h1 : x[j]? with
  | none =>
    have : y[j]? = none := by
      rw [List.getElem?_eq_none_iff] at h1 ⊢
      omega
    rw [this]
    simp
  | some a =>
    have hj : j < y.length := by
      have := (List.getElem?_eq_some_iff.mp h1).1
      omega
    rw [List.getElem?_eq_getElem hj]
    simp
theorem len_plus {x y : Row} {k : Int} (h : x.length = y.length) : (plusT x k y).length = x.length := by
  unfold plusT
  rw [List.length_zipWith]
  omega
theorem at_out {r : Row} {j : Nat} (h : r.length ≤ j) : at_ r j = 0 := by
  unfold at_
  rw [List.getD_eq_getElem?_getD, List.getElem?_eq_none_iff.mpr h]
  rfl
theorem row_ext {x y : Row} (h : x.length = y.length) (e : ∀ j, at_ x j = at_ y j) : x = y := by
  apply List.ext_getElem?
  intro j
  by_cases hj : j < x.length
  · have := e j
    unfold at_ at this
    rw [List.getD_eq_getElem?_getD, List.getD_eq_getElem?_getD, List.getElem?_eq_getElem hj, List.getElem?_eq_getElem (by omega : j < y.length)] at this
    rw [List.getElem?_eq_getElem hj, List.getElem?_eq_getElem (by omega : j < y.length)]
    simpa using this
  · rw [List.getElem?_eq_none_iff.mpr (by omega), List.getElem?_eq_none_iff.mpr (by omega)]

/-! ### spans -/
inductive Spn (rows : List Row) : (Nat → Int) → Prop
  | zero : Spn rows (fun _ => 0)
  | add {f : Nat → Int} {r : Row} (k : Int) : Spn rows f → r ∈ rows → Spn rows (fun j => f j + k * at_ r j)
theorem Spn.cg {rows : List Row} {f g : Nat → Int} (h : Spn rows f) (e : ∀ j, f j = g j) : Spn rows g := by
  have : f = g := funext e
  rw [← this]
  exact h
theorem Spn.row {rows : List Row} {r : Row} (h : r ∈ rows) : Spn rows (at_ r) := (Spn.add 1 Spn.zero h).cg fun j => by omega
theorem Spn.plus {rows : List Row} {f g : Nat → Int} (hf : Spn rows f) (hg : Spn rows g) : Spn rows (fun j => f j + g j) := by
  induction hg with
  | zero => exact hf.cg fun j => by simp
  | add k _ hr ih => exact (Spn.add k ih hr).cg fun j => by dsimp only; omega
theorem Spn.smul {rows : List Row} {f : Nat → Int} (c : Int) (hf : Spn rows f) : Spn rows (fun j => c * f j) := by
  induction hf with
  | zero => exact Spn.zero.cg fun j => by simp
  | add k _ hr ih => exact (Spn.add (c * k) ih hr).cg fun j => by rw [Int.mul_add, Int.mul_assoc]
theorem Spn.lin {rows : List Row} {f g : Nat → Int} (hf : Spn rows f) (c : Int) (hg : Spn rows g) : Spn rows (fun j => f j + c * g j) := hf.plus (hg.smul c)
theorem Spn.sub {rows rows' : List Row} {f : Nat → Int} (h : Spn rows f) (hs : ∀ r ∈ rows, Spn rows' (at_ r)) : Spn rows' f := by
  induction h with
  | zero => exact .zero
  | add k _ hr ih => exact ih.lin k (hs _ hr)
theorem Spn.mono {rows rows' : List Row} {f : Nat → Int} (h : Spn rows f) (hs : ∀ r ∈ rows, r ∈ rows') : Spn rows' f := h.sub fun r hr => .row (hs r hr)
/-- a linear property of all rows -/
theorem Spn.prop {rows : List Row} {f : Nat → Int} (h : Spn rows f) (p : (Nat → Int) → Prop) (h0 : p (fun _ => 0)) (ha : ∀ f r k, p f → r ∈ rows → p (fun j => f j + k * at_ r j)) : p f := by
  induction h with
  | zero => exact h0
  | add k _ hr ih => exact ha _ _ k ih hr
theorem Spn.col {rows : List Row} {f : Nat → Int} {c : Nat} (h : Spn rows f) (hz : ∀ r ∈ rows, at_ r c = 0) : f c = 0 := h.prop (fun f => f c = 0) rfl fun f r k hf hr => by
  show f c + k * at_ r c = 0
  rw [hf, hz r hr]
  simp
/-- the same span -/
def Eqv (R S : List Row) : Prop := ∀ f, Spn R f ↔ Spn S f
theorem Eqv.rfl' {R : List Row} : Eqv R R := fun _ => Iff.rfl
theorem Eqv.trans {R S T : List Row} (a : Eqv R S) (b : Eqv S T) : Eqv R T := fun f => (a f).trans (b f)
theorem Eqv.symm {R S : List Row} (a : Eqv R S) : Eqv S R := fun f => (a f).symm
theorem Eqv.of {R S : List Row} (h1 : ∀ r ∈ R, Spn S (at_ r)) (h2 : ∀ r ∈ S, Spn R (at_ r)) : Eqv R S := fun _ => ⟨fun h => h.sub h1, fun h => h.sub h2⟩
theorem Eqv.perm {R S : List Row} (h : R.Perm S) : Eqv R S := .of (fun r hr => .row (h.mem_iff.mp hr)) (fun r hr => .row (h.mem_iff.mpr hr))
theorem Eqv.app {R S T U : List Row} (a : Eqv R S) (b : Eqv T U) : Eqv (R ++ T) (S ++ U) := .of
  (fun r hr => (List.mem_append.mp hr).elim (fun h => ((a _).mp (.row h)).mono fun _ => List.mem_append_left _) fun h => ((b _).mp (.row h)).mono fun _ => List.mem_append_right _)
  (fun r hr => (List.mem_append.mp hr).elim (fun h => ((a _).mpr (.row h)).mono fun _ => List.mem_append_left _) fun h => ((b _).mpr (.row h)).mono fun _ => List.mem_append_right _)

/-! ### one round -/
/-- r less whole multiples of s, at the place k -/
def red (k : Nat) (s r : Row) : Row := plusT r (-((at_ r k).fdiv (at_ s k))) s
theorem at_red {k : Nat} {s r : Row} (h : r.length = s.length) (j : Nat) : at_ (red k s r) j = at_ r j - (at_ r k).fdiv (at_ s k) * at_ s j := by
  unfold red
  rw [at_plus h, Int.neg_mul]
  omega
theorem at_red_k {k : Nat} {s r : Row} (h : r.length = s.length) : at_ (red k s r) k = (at_ r k).fmod (at_ s k) := by
  rw [at_red h, Int.fmod_def, Int.mul_comm]
theorem red_zero {k : Nat} {s r : Row} (h : r.length = s.length) (hz : at_ r k = 0) : red k s r = r := by
  apply row_ext
  · exact len_plus h
  · intro j
    rw [at_red h, hz]
    simp
theorem red_eqv {k : Nat} {s : Row} {T : List Row} (h : ∀ r ∈ T, r.length = s.length) : Eqv (s :: T) (s :: T.map (red k s)) := by
  refine .of (fun r hr => ?_) (fun r hr => ?_)
  · rcases List.mem_cons.mp hr with e | hr
    · subst e
      exact .row (.head _)
    · have h1 : Spn (s :: T.map (red k s)) (at_ (red k s r)) := .row (List.mem_cons_of_mem _ (List.mem_map.mpr ⟨r, hr, rfl⟩))
      exact (Spn.lin h1 ((at_ r k).fdiv (at_ s k)) (.row (.head _))).cg fun j => by
        rw [at_red (h r hr)]
        omega
  · rcases List.mem_cons.mp hr with e | hr
    · subst e
      exact .row (.head _)
    · obtain ⟨q, hq, rfl⟩ := List.mem_map.mp hr
      exact (Spn.lin (.row (List.mem_cons_of_mem _ hq)) (-((at_ q k).fdiv (at_ s k))) (.row (.head _))).cg fun j => by
        rw [at_red (h q hq), Int.neg_mul]
        omega

/-! ### sizes -/
def Bd (N : Nat) (r : Row) : Prop := ∀ j, (at_ r j).natAbs ≤ N
/-- how many rows have an entry at k -/
def cnt (k : Nat) (R : List Row) : Nat := (R.filter fun r => at_ r k != 0).length
theorem cnt_perm {k : Nat} {R S : List Row} (h : R.Perm S) : cnt k R = cnt k S := (h.filter _).length_eq
theorem cnt_cons (k : Nat) (r : Row) (R : List Row) : cnt k (r :: R) = (if at_ r k = 0 then 0 else 1) + cnt k R := by
  unfold cnt
  rw [List.filter_cons]
  by_cases h : at_ r k = 0
  · simp [h]
  · simp [h]
    omega
theorem cnt_le (k : Nat) (R : List Row) : cnt k R ≤ R.length := List.length_filter_le ..
theorem Bd.red {N q k : Nat} {s r : Row} (h : r.length = s.length) (hr : Bd N r) (hs : Bd N s) (hq : ((at_ r k).fdiv (at_ s k)).natAbs ≤ q) : Bd (N * (q + 1)) (red k s r) := fun j => by
  rw [at_red h]
  have h1 : (at_ r j - (at_ r k).fdiv (at_ s k) * at_ s j).natAbs ≤ (at_ r j).natAbs + ((at_ r k).fdiv (at_ s k) * at_ s j).natAbs := by omega
  rw [Int.natAbs_mul] at h1
  have h2 : ((at_ r k).fdiv (at_ s k)).natAbs * (at_ s j).natAbs ≤ q * N := Nat.mul_le_mul hq (hs j)
  have h3 := hr j
  have h4 : N * (q + 1) = q * N + N := by rw [Nat.mul_add, Nat.mul_comm]; omega
  omega
theorem Bd.mono {N N' : Nat} {r : Row} (h : Bd N r) (hn : N ≤ N') : Bd N' r := fun j => Nat.le_trans (h j) hn
/-- floor division of numbers of one sign -/
theorem fdiv_same {a b : Int} (hb : b ≠ 0) (hs : 0 ≤ a * b) : (a.fdiv b).natAbs = a.natAbs / b.natAbs := by
  rcases Int.lt_or_gt_of_ne hb with h | h
  · have ha : a ≤ 0 := by
      rcases Int.lt_or_le 0 a with q | q
      · have := Int.mul_neg_of_pos_of_neg q h
        omega
      · exact q
    have e : a.fdiv b = (-a).fdiv (-b) := (Int.neg_fdiv_neg ..).symm
    rw [e, Int.fdiv_eq_ediv_of_nonneg _ (by omega)]
    obtain ⟨n, hn⟩ := Int.eq_ofNat_of_zero_le (show 0 ≤ -a by omega)
    obtain ⟨m, hm⟩ := Int.eq_ofNat_of_zero_le (show 0 ≤ -b by omega)
    have e1 : a.natAbs = n := by omega
    have e2 : b.natAbs = m := by omega
    rw [hn, hm, e1, e2, ← Int.natCast_ediv, Int.natAbs_natCast]
  · have ha : 0 ≤ a := by
      rcases Int.lt_or_le a 0 with q | q
      · have := Int.mul_neg_of_neg_of_pos q h
        omega
      · exact q
    rw [Int.fdiv_eq_ediv_of_nonneg _ (by omega)]
    obtain ⟨n, hn⟩ := Int.eq_ofNat_of_zero_le ha
    obtain ⟨m, hm⟩ := Int.eq_ofNat_of_zero_le (show 0 ≤ b by omega)
    rw [hn, hm, ← Int.natCast_ediv, Int.natAbs_natCast, Int.natAbs_natCast, Int.natAbs_natCast]
/-- in general: one more at most -/
theorem fdiv_any {a b : Int} (hb : b ≠ 0) : (a.fdiv b).natAbs ≤ a.natAbs / b.natAbs + 1 := by
  have key : ∀ (a b : Int), 0 < b → (a.fdiv b).natAbs ≤ a.natAbs / b.natAbs + 1 := fun a b hb => by
    rw [Int.fdiv_eq_ediv_of_nonneg _ (by omega)]
    rcases Int.lt_or_le a 0 with q | q
    · obtain ⟨n, hn⟩ := Int.eq_ofNat_of_zero_le (show 0 ≤ -a by omega)
      obtain ⟨m, hm⟩ := Int.eq_ofNat_of_zero_le (show 0 ≤ b by omega)
      have ea : a = -(n : Int) := by omega
      have e1 : a.natAbs = n := by omega
      have e2 : b.natAbs = m := by omega
      rw [e1, e2]
      have hm0 : 0 < (m : Int) := by omega
      have h1 : -((n / m : Nat) : Int) - 1 ≤ a / b := by
        rw [hm]
        refine Int.le_ediv_of_mul_le hm0 ?_
        rw [ea]
        have := Nat.lt_div_mul_add (a := n) (b := m) (by omega)
        have h2 : n < (n / m) * m + m := this
        have h3 : (-((n / m : Nat) : Int) - 1) * (m : Int) = -(((n / m) * m + m : Nat) : Int) := by
          push_cast
          rw [Int.sub_mul, Int.neg_mul]
          omega
        rw [h3]
        omega
      have h2 : a / b ≤ 0 := Int.ediv_nonpos_of_nonpos_of_neg (by omega) (by omega)
      omega
    · obtain ⟨n, hn⟩ := Int.eq_ofNat_of_zero_le q
      obtain ⟨m, hm⟩ := Int.eq_ofNat_of_zero_le (show 0 ≤ b by omega)
      rw [hn, hm, ← Int.natCast_ediv, Int.natAbs_natCast, Int.natAbs_natCast, Int.natAbs_natCast]
      omega
  rcases Int.lt_or_gt_of_ne hb with h | h
  · have e : a.fdiv b = (-a).fdiv (-b) := (Int.neg_fdiv_neg ..).symm
    rw [e]
    have := key (-a) (-b) (by omega)
    rw [Int.natAbs_neg, Int.natAbs_neg] at this
    exact this
  · exact key a b h
theorem fmod_neg {a b : Int} (h : b < 0) : a.fmod b ≤ 0 ∧ b < a.fmod b := by
  have e := Int.neg_fmod_neg a b
  have h1 := Int.fmod_nonneg_of_pos (-a) (show 0 < -b by omega)
  have h2 := Int.fmod_lt_of_pos (-a) (show 0 < -b by omega)
  omega
theorem fmod_lt {a b : Int} (hb : b ≠ 0) : (a.fmod b).natAbs < b.natAbs ∧ 0 ≤ a.fmod b * b := by
  rcases Int.lt_or_gt_of_ne hb with h | h
  · obtain ⟨h1, h2⟩ := fmod_neg (a := a) h
    refine ⟨by omega, Int.mul_nonneg_of_nonpos_of_nonpos (by omega) (by omega)⟩
  · have h1 := Int.fmod_nonneg_of_pos a h
    have h2 := Int.fmod_lt_of_pos a h
    refine ⟨by omega, Int.mul_nonneg h1 (by omega)⟩
/-- of one sign: the rest is that of the absolute values -/
theorem fmod_same {a b : Int} (hb : b ≠ 0) (hs : 0 ≤ a * b) : (a.fmod b).natAbs = a.natAbs % b.natAbs := by
  have h1 := fdiv_same hb hs
  obtain ⟨h2, h3⟩ := fmod_lt (a := a) hb
  have h4 := Int.fmod_def a b
  have h5 : (b * a.fdiv b).natAbs = b.natAbs * (a.natAbs / b.natAbs) := by rw [Int.natAbs_mul, h1]
  have h6 := Nat.div_add_mod a.natAbs b.natAbs
  have h7 : 0 ≤ b * a.fdiv b ∧ 0 ≤ a ∧ 0 ≤ b ∨ b * a.fdiv b ≤ 0 ∧ a ≤ 0 ∧ b ≤ 0 := by
    rcases Int.lt_or_gt_of_ne hb with h | h
    · have ha : a ≤ 0 := by
        rcases Int.lt_or_le 0 a with q | q
        · have := Int.mul_neg_of_pos_of_neg q h
          omega
        · exact q
      refine .inr ⟨?_, ha, by omega⟩
      have e : a.fdiv b = (-a).fdiv (-b) := (Int.neg_fdiv_neg ..).symm
      have : 0 ≤ a.fdiv b := by
        rw [e, Int.fdiv_eq_ediv_of_nonneg _ (by omega)]
        exact Int.ediv_nonneg (by omega) (by omega)
      exact Int.mul_nonpos_of_nonpos_of_nonneg (by omega) this
    · have ha : 0 ≤ a := by
        rcases Int.lt_or_le a 0 with q | q
        · have := Int.mul_neg_of_neg_of_pos q h
          omega
        · exact q
      refine .inl ⟨Int.mul_nonneg (by omega) ?_, ha, by omega⟩
      rw [Int.fdiv_eq_ediv_of_nonneg _ (by omega)]
      exact Int.ediv_nonneg ha (by omega)
  have h8 : 0 ≤ a.fmod b ∧ 0 ≤ b ∨ a.fmod b ≤ 0 ∧ b ≤ 0 := by
    rcases Int.lt_or_gt_of_ne hb with h | h
    · exact .inr ⟨(fmod_neg h).1, by omega⟩
    · exact .inl ⟨Int.fmod_nonneg_of_pos a h, by omega⟩
  omega
end Mt
/-! text Mb -/
set_option linter.all false
namespace Mt
/-! Clearing a column: a round keeps the span, the sizes' bound, and lessens a measure. -/
def mes (k : Nat) (R : List Row) : Nat := (R.map fun r => (at_ r k).natAbs).sum
theorem sum_perm {l m : List Nat} (h : l.Perm m) : l.sum = m.sum := by
  induction h with
  | nil => rfl
  | cons x _ ih => simp [ih]
  | swap x y l => simp; omega
  | trans _ _ a b => exact a.trans b
theorem mes_perm {k : Nat} {R S : List Row} (h : R.Perm S) : mes k R = mes k S := sum_perm (h.map _)
def Big (k C : Nat) (R : List Row) : Prop := ∃ p S N, R.Perm (p :: S) ∧ at_ p k ≠ 0 ∧ (∀ r ∈ S, (at_ r k).natAbs < (at_ p k).natAbs ∧ 0 ≤ at_ r k * at_ p k) ∧ (∀ r ∈ R, Bd N r) ∧ N ≤ C ∧
  ∀ s ∈ S, at_ s k ≠ 0 → (∀ r ∈ S, at_ r k ≠ 0 → (at_ s k).natAbs ≤ (at_ r k).natAbs) → N * (at_ p k).natAbs * (at_ s k).natAbs * 2 ^ cnt k R ≤ C
def Siz (k C : Nat) (R : List Row) : Prop := (∃ N, (∀ r ∈ R, Bd N r) ∧ N ≤ C ∧ 3 * N * N * N * 2 ^ cnt k R ≤ C) ∨ Big k C R
theorem Siz.bd {k C : Nat} {R : List Row} (h : Siz k C R) : ∀ r ∈ R, Bd C r := by
  rcases h with ⟨N, h, hc, _⟩ | ⟨_, _, N, _, _, _, h, hc, _⟩
  · exact fun r hr => (h r hr).mono hc
  · exact fun r hr => (h r hr).mono hc
theorem Siz.perm {k C : Nat} {R S : List Row} (h : Siz k C R) (hp : R.Perm S) : Siz k C S := by
  rcases h with ⟨N, h, hc, h3⟩ | ⟨p, T, N, h0, h1, h2, h3, h4, h5⟩
  · exact .inl ⟨N, fun r hr => h r (hp.mem_iff.mpr hr), hc, by rw [← cnt_perm hp]; exact h3⟩
  · exact .inr ⟨p, T, N, hp.symm.trans h0, h1, h2, fun r hr => h3 r (hp.mem_iff.mpr hr), h4, by rw [← cnt_perm hp]; exact h5⟩
theorem sign_of {a b p : Int} (hp : p ≠ 0) (ha : 0 ≤ a * p) (hb : 0 ≤ b * p) : 0 ≤ a * b := by
  rcases Int.lt_or_gt_of_ne hp with h | h
  · have h1 : a ≤ 0 := by
      rcases Int.lt_or_le 0 a with q | q
      · have := Int.mul_neg_of_pos_of_neg q h
        omega
      · exact q
    have h2 : b ≤ 0 := by
      rcases Int.lt_or_le 0 b with q | q
      · have := Int.mul_neg_of_pos_of_neg q h
        omega
      · exact q
    exact Int.mul_nonneg_of_nonpos_of_nonpos h1 h2
  · have h1 : 0 ≤ a := by
      rcases Int.lt_or_le a 0 with q | q
      · have := Int.mul_neg_of_neg_of_pos q h
        omega
      · exact q
    have h2 : 0 ≤ b := by
      rcases Int.lt_or_le b 0 with q | q
      · have := Int.mul_neg_of_neg_of_pos q h
        omega
      · exact q
    exact Int.mul_nonneg h1 h2
theorem cnt_red {k : Nat} {s : Row} : ∀ {T : List Row}, (∀ r ∈ T, r.length = s.length) → cnt k (T.map (red k s)) ≤ cnt k T
  | [], _ => Nat.le_refl _
  | r :: T, h => by
    have ih := cnt_red (k := k) (s := s) (T := T) fun q hq => h q (List.mem_cons_of_mem _ hq)
    rw [List.map_cons, cnt_cons, cnt_cons]
    by_cases e : at_ r k = 0
    · have : at_ (red k s r) k = 0 := by
        rw [at_red_k (h r (.head _)), e]
        simp
      rw [if_pos e, if_pos this]
      omega
    · rw [if_neg e]
      split <;> omega
theorem cnt_red1 {k : Nat} {s p : Row} : ∀ {T : List Row}, (∀ r ∈ T, r.length = s.length) → p ∈ T → at_ p k ≠ 0 → at_ (red k s p) k = 0 → cnt k (T.map (red k s)) + 1 ≤ cnt k T
  | [], _, hp, _, _ => by cases hp
  | r :: T, h, hp, h1, h2 => by
    rw [List.map_cons, cnt_cons, cnt_cons]
    have ht : ∀ q ∈ T, q.length = s.length := fun q hq => h q (List.mem_cons_of_mem _ hq)
    rcases List.mem_cons.mp hp with e | hp
    · subst e
      have := cnt_red (k := k) ht
      rw [if_neg h1, if_pos h2]
      omega
    · have ih := cnt_red1 ht hp h1 h2
      by_cases e : at_ r k = 0
      · have : at_ (red k s r) k = 0 := by
          rw [at_red_k (h r (.head _)), e]
          simp
        rw [if_pos e, if_pos this]
        omega
      · rw [if_neg e]
        split <;> omega
theorem mes_red {k : Nat} {s : Row} (hs : at_ s k ≠ 0) : ∀ {T : List Row}, (∀ r ∈ T, r.length = s.length) → (∀ r ∈ T, at_ r k ≠ 0 → (at_ s k).natAbs ≤ (at_ r k).natAbs) → mes k (T.map (red k s)) ≤ mes k T ∧ ((∃ r ∈ T, at_ r k ≠ 0) → mes k (T.map (red k s)) < mes k T)
  | [], _, _ => ⟨Nat.le_refl _, fun ⟨r, hr, _⟩ => by cases hr⟩
  | r :: T, h, hm => by
    obtain ⟨h1, h2⟩ := mes_red hs (T := T) (fun q hq => h q (List.mem_cons_of_mem _ hq)) fun q hq => hm q (List.mem_cons_of_mem _ hq)
    have e : mes k ((r :: T).map (red k s)) = (at_ (red k s r) k).natAbs + mes k (T.map (red k s)) := by simp [mes]
    have e2 : mes k (r :: T) = (at_ r k).natAbs + mes k T := by simp [mes]
    rw [e, e2, at_red_k (h r (.head _))]
    by_cases z : at_ r k = 0
    · rw [z]
      have : ((0 : Int).fmod (at_ s k)).natAbs = 0 := by simp
      rw [this]
      refine ⟨by simp; exact h1, fun ⟨q, hq, hz⟩ => ?_⟩
      rcases List.mem_cons.mp hq with y | hq
      · subst y
        exact absurd z hz
      · have := h2 ⟨q, hq, hz⟩
        simp
        exact this
    · have := (fmod_lt (a := at_ r k) hs).1
      have := hm r (.head _) z
      exact ⟨by omega, fun _ => by omega⟩
theorem mul_le4 {a b c d N C : Nat} (h1 : a ≤ b) (h : N * b * c * d ≤ C) : N * a * c * d ≤ C := Nat.le_trans (Nat.mul_le_mul (Nat.mul_le_mul (Nat.mul_le_mul (Nat.le_refl _) h1) (Nat.le_refl _)) (Nat.le_refl _)) h
/-- THE ROUND -/
theorem round {k C : Nat} {R T : List Row} {s : Row} (hz : Siz k C R) (hp : R.Perm (s :: T)) (hl : ∀ r ∈ T, r.length = s.length) (hs : at_ s k ≠ 0) (hm : ∀ r ∈ T, at_ r k ≠ 0 → (at_ s k).natAbs ≤ (at_ r k).natAbs) (hc : ∃ r ∈ T, at_ r k ≠ 0) : Siz k C (s :: T.map (red k s)) := by
  have hx : 0 < (at_ s k).natAbs := by omega
  have hz := hz.perm hp
  have hcs : cnt k (s :: T) = 1 + cnt k T := by rw [cnt_cons, if_neg hs]
  have hcs' : cnt k (s :: T.map (red k s)) = 1 + cnt k (T.map (red k s)) := by rw [cnt_cons, if_neg hs]
  have hcle := cnt_red (k := k) hl
  have hcT : 0 < cnt k T := by
    obtain ⟨r, hr, hrz⟩ := hc
    exact List.length_pos_iff.mpr (List.ne_nil_of_mem (List.mem_filter.mpr ⟨hr, by simpa using hrz⟩))
  right
  rcases hz with ⟨N, hN, hNC, hC⟩ | ⟨p, S, N, h0, h1, h2, h3, h4, h5⟩
  · -- the first round
    have hxN : (at_ s k).natAbs ≤ N := hN s (.head _) k
    generalize hxe : (at_ s k).natAbs = x at hx hxN hm
    have hdiv : N / x * x ≤ N := Nat.div_mul_le_self N x
    have hdN : N / x ≤ N := Nat.div_le_self N x
    have hN1 : N * (N / x + 2) ≤ 3 * N * N := by
      have h1 : N / x + 2 ≤ 3 * N := by omega
      have := Nat.mul_le_mul (Nat.le_refl N) h1
      rw [show 3 * N * N = N * (3 * N) by rw [Nat.mul_comm]]
      exact this
    have hpow : 1 ≤ 2 ^ cnt k (s :: T) := Nat.one_le_two_pow
    have h3N : 3 * N * N ≤ C := by
      refine Nat.le_trans ?_ hC
      have h1 : 3 * N * N * 1 ≤ 3 * N * N * (N * 2 ^ cnt k (s :: T)) := Nat.mul_le_mul (Nat.le_refl _) (Nat.mul_pos (by omega) (by omega))
      rw [Nat.mul_one] at h1
      rw [← Nat.mul_assoc] at h1
      exact h1
    refine ⟨s, T.map (red k s), N * (N / x + 2), List.Perm.refl _, hs, ?_, ?_, Nat.le_trans hN1 h3N, ?_⟩
    · intro r hr
      obtain ⟨q, hq, rfl⟩ := List.mem_map.mp hr
      rw [at_red_k (hl q hq)]
      exact fmod_lt hs
    · intro r hr
      rcases List.mem_cons.mp hr with e | hr
      · subst e
        exact (hN r (.head _)).mono (Nat.le_mul_of_pos_right _ (Nat.succ_pos _))
      · obtain ⟨q, hq, rfl⟩ := List.mem_map.mp hr
        refine Bd.red (hl q hq) (hN q (List.mem_cons_of_mem _ hq)) (hN s (.head _)) ?_
        have h6 := fdiv_any (a := at_ q k) hs
        rw [hxe] at h6
        have h7 : (at_ q k).natAbs / x ≤ N / x := Nat.div_le_div_right (hN q (List.mem_cons_of_mem _ hq) k)
        omega
    · intro s' hs' hz' _
      obtain ⟨q, hq, rfl⟩ := List.mem_map.mp hs'
      have hy : (at_ (red k s q) k).natAbs ≤ x := by
        rw [at_red_k (hl q hq)]
        have := (fmod_lt (a := at_ q k) hs).1
        omega
      rw [hxe]
      generalize (at_ (red k s q) k).natAbs = y at hy
      refine Nat.le_trans ?_ hC
      have e1 : N * (N / x + 2) * x ≤ 3 * N * N := by
        have : (N / x + 2) * x ≤ 3 * N := by
          rw [Nat.add_mul]
          omega
        rw [Nat.mul_assoc, show 3 * N * N = N * (3 * N) by rw [Nat.mul_comm]]
        exact Nat.mul_le_mul (Nat.le_refl N) this
      have e2 : N * (N / x + 2) * x * y ≤ 3 * N * N * N := Nat.mul_le_mul e1 (by omega)
      exact Nat.mul_le_mul e2 (Nat.pow_le_pow_right (by decide) (by omega))
  · -- a later round
    have hsp : s ≠ p := fun e => by
      subst e
      obtain ⟨r, hr, hrz⟩ := hc
      have hrS : r ∈ S := (List.Perm.cons_inv h0).mem_iff.mp hr
      have := (h2 r hrS).1
      have := hm r hr hrz
      omega
    have hsS : s ∈ S := by
      have : s ∈ p :: S := h0.mem_iff.mp (.head _)
      rcases List.mem_cons.mp this with e | e
      · exact absurd e hsp
      · exact e
    have hpT : p ∈ T := by
      have : p ∈ s :: T := h0.mem_iff.mpr (.head _)
      rcases List.mem_cons.mp this with e | e
      · exact absurd e.symm hsp
      · exact e
    have hall : ∀ r ∈ T, (at_ r k).natAbs ≤ (at_ p k).natAbs ∧ 0 ≤ at_ r k * at_ p k := fun r hr => by
      have : r ∈ p :: S := h0.mem_iff.mp (List.mem_cons_of_mem _ hr)
      rcases List.mem_cons.mp this with e | e
      · subst e
        exact ⟨Nat.le_refl _, by rcases Int.le_total 0 (at_ r k) with q | q; exact Int.mul_nonneg q q; exact Int.mul_nonneg_of_nonpos_of_nonpos q q⟩
      · exact ⟨Nat.le_of_lt (h2 r e).1, (h2 r e).2⟩
    have hsame : ∀ r ∈ T, 0 ≤ at_ r k * at_ s k := fun r hr => sign_of h1 (hall r hr).2 (h2 s hsS).2
    have hleast : ∀ r ∈ S, at_ r k ≠ 0 → (at_ s k).natAbs ≤ (at_ r k).natAbs := fun r hr hz => by
      have : r ∈ s :: T := h0.mem_iff.mpr (List.mem_cons_of_mem _ hr)
      rcases List.mem_cons.mp this with e | e
      · rw [e]
        exact Nat.le_refl _
      · exact hm r e hz
    have hpot := h5 s hsS hs hleast
    have hlt := (h2 s hsS).1
    have hpy := hm p hpT h1
    have hpm : (at_ (red k s p) k).natAbs = (at_ p k).natAbs % (at_ s k).natAbs := by
      rw [at_red_k (hl p hpT), fmod_same hs (hsame p hpT)]
    generalize hxe : (at_ p k).natAbs = x at hpot hlt hpy hall hpm
    generalize hye : (at_ s k).natAbs = y at hpot hlt hpy hm hx hpm
    have hdm := Nat.div_add_mod x y
    have hq1 : 1 ≤ x / y := (Nat.one_le_div_iff hx).mpr (by omega)
    have hpw : 2 ≤ 2 ^ cnt k (s :: T) := by
      rw [hcs]
      exact Nat.pow_le_pow_right (n := 2) (by decide) (show 1 ≤ 1 + cnt k T by omega)
    have hNC : N * (x / y + 1) ≤ C := by
      refine Nat.le_trans ?_ hpot
      have h6 : x / y ≤ x := Nat.div_le_self x y
      have h7 : x / y + 1 ≤ x * (y * 2) := by
        have : x * 1 ≤ x * y := Nat.mul_le_mul (Nat.le_refl x) hx
        rw [← Nat.mul_assoc]
        omega
      have h8 : x * (y * 2) ≤ x * (y * 2 ^ cnt k (s :: T)) := Nat.mul_le_mul (Nat.le_refl _) (Nat.mul_le_mul (Nat.le_refl _) hpw)
      have h9 := Nat.mul_le_mul (Nat.le_refl N) (Nat.le_trans h7 h8)
      rw [← Nat.mul_assoc, ← Nat.mul_assoc] at h9
      exact h9
    refine ⟨s, T.map (red k s), N * (x / y + 1), List.Perm.refl _, hs, ?_, ?_, hNC, ?_⟩
    · intro r hr
      obtain ⟨q, hq, rfl⟩ := List.mem_map.mp hr
      rw [at_red_k (hl q hq)]
      exact fmod_lt hs
    · intro r hr
      rcases List.mem_cons.mp hr with e | hr
      · subst e
        exact (h3 r (.head _)).mono (Nat.le_mul_of_pos_right _ (by omega))
      · obtain ⟨q, hq, rfl⟩ := List.mem_map.mp hr
        refine Bd.red (hl q hq) (h3 q (List.mem_cons_of_mem _ hq)) (h3 s (.head _)) ?_
        rw [fdiv_same hs (hsame q hq), hye]
        exact Nat.div_le_div_right (hall q hq).1
    · intro s' hs' hz' hle
      rw [hye]
      have hs'lt : (at_ s' k).natAbs < y := by
        obtain ⟨q, hq, rfl⟩ := List.mem_map.mp hs'
        rw [at_red_k (hl q hq), ← hye]
        exact (fmod_lt hs).1
      have hpin : red k s p ∈ T.map (red k s) := List.mem_map.mpr ⟨p, hpT, rfl⟩
      by_cases hz2 : at_ (red k s p) k = 0
      · -- the old pivot is gone
        have h6 := cnt_red1 hl hpT h1 hz2
        generalize (at_ s' k).natAbs = y' at hs'lt
        have h7 : (x / y + 1) * y * y' ≤ 2 * (x * y) := by
          have h8 : x / y * y ≤ x := Nat.div_mul_le_self x y
          have h9 : (x / y + 1) * y' ≤ 2 * x := by
            have : (x / y + 1) * y' ≤ (x / y + 1) * y := Nat.mul_le_mul (Nat.le_refl _) (by omega)
            have h10 : (x / y + 1) * y = x / y * y + y := by rw [Nat.add_mul, Nat.one_mul]
            omega
          rw [Nat.mul_assoc, Nat.mul_comm y y', ← Nat.mul_assoc, ← Nat.mul_assoc]
          exact Nat.mul_le_mul h9 (Nat.le_refl y)
        have h8 : N * (x / y + 1) * y * y' ≤ N * x * y * 2 := by
          have := Nat.mul_le_mul (Nat.le_refl N) h7
          have e1 : N * ((x / y + 1) * y * y') = N * (x / y + 1) * y * y' := by rw [← Nat.mul_assoc, ← Nat.mul_assoc]
          have e2 : N * (2 * (x * y)) = N * x * y * 2 := by rw [Nat.mul_comm 2, ← Nat.mul_assoc, ← Nat.mul_assoc]
          omega
        refine Nat.le_trans (Nat.mul_le_mul h8 (Nat.le_refl _)) (Nat.le_trans ?_ hpot)
        rw [Nat.mul_assoc]
        refine Nat.mul_le_mul (Nat.le_refl _) ?_
        rw [hcs', hcs, ← Nat.pow_succ']
        exact Nat.pow_le_pow_right (by decide) (by omega)
      · have h6 := hle _ hpin hz2
        rw [hpm] at h6
        generalize (at_ s' k).natAbs = y' at hs'lt h6
        have h7 : (x / y + 1) * y * y' ≤ x * y := by
          have h9 : (x / y + 1) * y' ≤ x := by
            have h10 : x / y * y' ≤ y * (x / y) := by
              rw [Nat.mul_comm y]
              exact Nat.mul_le_mul (Nat.le_refl _) (by omega)
            have h11 : (x / y + 1) * y' = x / y * y' + y' := by rw [Nat.add_mul, Nat.one_mul]
            omega
          rw [Nat.mul_assoc, Nat.mul_comm y y', ← Nat.mul_assoc]
          exact Nat.mul_le_mul h9 (Nat.le_refl y)
        have h8 : N * (x / y + 1) * y * y' ≤ N * x * y := by
          have := Nat.mul_le_mul (Nat.le_refl N) h7
          have e1 : N * ((x / y + 1) * y * y') = N * (x / y + 1) * y * y' := by rw [← Nat.mul_assoc, ← Nat.mul_assoc]
          have e2 : N * (x * y) = N * x * y := by rw [← Nat.mul_assoc]
          omega
        refine Nat.le_trans (Nat.mul_le_mul h8 (Nat.pow_le_pow_right (by decide) ?_)) hpot
        rw [hcs', hcs]
        omega
/-- what a round gives -/
theorem round_mes {k : Nat} {R T : List Row} {s : Row} (hp : R.Perm (s :: T)) (hl : ∀ r ∈ T, r.length = s.length) (hs : at_ s k ≠ 0) (hm : ∀ r ∈ T, at_ r k ≠ 0 → (at_ s k).natAbs ≤ (at_ r k).natAbs) (hc : ∃ r ∈ T, at_ r k ≠ 0) : mes k (s :: T.map (red k s)) < mes k R := by
  rw [mes_perm hp]
  have h := (mes_red hs hl hm).2 hc
  have e1 : mes k (s :: T.map (red k s)) = (at_ s k).natAbs + mes k (T.map (red k s)) := by simp [mes]
  have e2 : mes k (s :: T) = (at_ s k).natAbs + mes k T := by simp [mes]
  omega
theorem len_red {k : Nat} {s r : Row} (h : r.length = s.length) : (red k s r).length = s.length := (len_plus h).trans h
end Mt
/-! text Mc -/
set_option linter.all false
namespace Mt
/-! The program's cleared, triangular, reduced_by. -/
def beta : Nat → Nat
  | 0 => 20
  | n + 1 => 3 * beta n + 8
/-- the state of cleared's loop -/
structure CI (W k C D : Nat) (R0 A O : List Row) : Prop where
  len : ∀ r ∈ A ++ O, r.length = W
  act : ∀ r ∈ A, at_ r k ≠ 0
  oth : ∀ r ∈ O, at_ r k = 0
  siz : Siz k C (A ++ O)
  top : ∀ r ∈ A ++ O, (at_ r k).natAbs ≤ D
  eqv : Eqv (A ++ O) R0
  num : (A ++ O).length = R0.length
def restOf (s : Row) (A : List Row) : List Row := A.filter fun r => r != s
def doubOf (s : Row) (A : List Row) : List Row := ((A.filter fun r => r == s).map fun _ => s).drop 1
theorem split_perm {s : Row} : ∀ {A : List Row}, (A.filter (fun r => r != s) ++ A.filter (fun r => r == s)).Perm A
  | [] => .refl _
  | a :: A => by
    rw [List.filter_cons, List.filter_cons]
    by_cases h : a == s
    · have h2 : (a != s) = false := by simp [bne, h]
      rw [if_pos h, if_neg (by rw [h2]; decide)]
      exact List.perm_middle.trans ((split_perm (A := A)).cons a)
    · have h2 : (a != s) = true := by simp [bne, h]
      rw [if_neg h, if_pos h2]
      exact (split_perm (A := A)).cons a
theorem act_perm {s : Row} {A : List Row} (h : s ∈ A) : A.Perm (s :: (restOf s A ++ doubOf s A)) := by
  refine (split_perm (s := s)).symm.trans ?_
  have e : (A.filter fun r => r == s).map (fun _ => s) = A.filter fun r => r == s := by
    have : ∀ l : List Row, (∀ r ∈ l, r = s) → l.map (fun _ => s) = l := fun l hl => by
      induction l with
      | nil => rfl
      | cons a l ih => rw [List.map_cons, ih fun r hr => hl r (List.mem_cons_of_mem _ hr), hl a (.head _)]
    exact this _ fun r hr => by simpa using (List.mem_filter.mp hr).2
  have hm : s ∈ A.filter fun r => r == s := List.mem_filter.mpr ⟨h, by simp⟩
  have e2 : A.filter (fun r => r == s) = s :: doubOf s A := by
    unfold doubOf
    rw [e]
    cases q : A.filter (fun r => r == s) with
    | nil =>
      rw [q] at hm
      cases hm
    | cons a l =>
      have : a = s := by
        have : a ∈ A.filter fun r => r == s := by
          rw [q]
          exact .head _
        simpa using (List.mem_filter.mp this).2
      rw [this]
      rfl
  rw [e2]
  exact List.perm_middle
def chgOf (k : Nat) (s : Row) (A : List Row) : List Row := (restOf s A ++ doubOf s A).map (red k s)
theorem rest_mem {s r : Row} {A : List Row} (hs : s ∈ A) (h : r ∈ restOf s A ++ doubOf s A) : r ∈ A := (act_perm hs).mem_iff.mpr (List.mem_cons_of_mem _ h)
theorem filter_split (p : Row → Bool) (l : List Row) : (l.filter p ++ l.filter fun r => !p r).Perm l := List.filter_append_perm p l
theorem CI.init {W k N : Nat} {R0 : List Row} (hl : ∀ r ∈ R0, r.length = W) (hb : ∀ r ∈ R0, Bd (2 ^ N) r) (hm : R0.length ≤ 6) : CI W k (2 ^ (3 * N + 8)) (2 ^ N) R0 (R0.filter fun r => at_ r k != 0) (R0.filter fun r => at_ r k == 0) := by
  have hp : (R0.filter (fun r => at_ r k != 0) ++ R0.filter fun r => at_ r k == 0).Perm R0 := by
    have := filter_split (fun r => at_ r k != 0) R0
    have e : (fun r : Row => !(at_ r k != 0)) = fun r => at_ r k == 0 := by
      funext r
      simp [bne]
    rw [e] at this
    exact this
  refine ⟨fun r hr => hl r (hp.mem_iff.mp hr), fun r hr => by simpa using (List.mem_filter.mp hr).2, fun r hr => by simpa using (List.mem_filter.mp hr).2, .inl ⟨2 ^ N, fun r hr => hb r (hp.mem_iff.mp hr), Nat.pow_le_pow_right (by decide) (by omega), ?_⟩, fun r hr => hb r (hp.mem_iff.mp hr) k, .perm hp, hp.length_eq⟩
  rw [cnt_perm hp]
  have h1 : cnt k R0 ≤ 6 := Nat.le_trans (cnt_le k R0) hm
  have h2 : 2 ^ cnt k R0 ≤ 64 := Nat.pow_le_pow_right (n := 2) (by decide) h1
  have h3 : (2 : Nat) ^ (3 * N + 8) = 256 * (2 ^ N * 2 ^ N * 2 ^ N) := by
    rw [Nat.pow_add, show 3 * N = N + N + N by omega, Nat.pow_add, Nat.pow_add, Nat.mul_comm]
  rw [h3]
  have h4 : 3 * 2 ^ N * 2 ^ N * 2 ^ N = 3 * (2 ^ N * 2 ^ N * 2 ^ N) := by rw [Nat.mul_assoc, Nat.mul_assoc, Nat.mul_assoc]
  rw [h4]
  generalize 2 ^ N * 2 ^ N * 2 ^ N = z
  have := Nat.mul_le_mul (Nat.le_refl (3 * z)) h2
  omega
theorem CI.step {W k C D : Nat} {R0 A O : List Row} {s : Row} (h : CI W k C D R0 A O) (hs : s ∈ A) (hm : ∀ r ∈ A, (at_ s k).natAbs ≤ (at_ r k).natAbs) (h1 : 1 < A.length) :
    CI W k C D R0 (s :: (chgOf k s A).filter fun r => at_ r k != 0) (O ++ (chgOf k s A).filter fun r => at_ r k == 0) ∧ mes k (s :: (chgOf k s A).filter fun r => at_ r k != 0) < mes k A := by
  have hsl : s.length = W := h.len s (List.mem_append_left _ hs)
  have hs0 := h.act s hs
  have hA := act_perm hs
  have hlt : ∀ r ∈ restOf s A ++ doubOf s A, r.length = s.length := fun r hr => by rw [hsl]; exact h.len r (List.mem_append_left _ (rest_mem hs hr))
  have hmt : ∀ r ∈ restOf s A ++ doubOf s A, at_ r k ≠ 0 → (at_ s k).natAbs ≤ (at_ r k).natAbs := fun r hr _ => hm r (rest_mem hs hr)
  have hne : ∃ r ∈ restOf s A ++ doubOf s A, at_ r k ≠ 0 := by
    have := hA.length_eq
    rw [List.length_cons] at this
    cases q : restOf s A ++ doubOf s A with
    | nil =>
      rw [q] at this
      simp at this
      omega
    | cons r l =>
      have hr : r ∈ restOf s A ++ doubOf s A := by
        rw [q]
        exact .head _
      exact ⟨r, .head _, h.act r (rest_mem hs hr)⟩
  have hO : O.map (red k s) = O := by
    have : ∀ l : List Row, (∀ r ∈ l, red k s r = r) → l.map (red k s) = l := fun l hl => by
      induction l with
      | nil => rfl
      | cons a l ih => rw [List.map_cons, ih fun r hr => hl r (List.mem_cons_of_mem _ hr), hl a (.head _)]
    exact this O fun r hr => red_zero (by rw [hsl]; exact h.len r (List.mem_append_right _ hr)) (h.oth r hr)
  have hT : ∀ r ∈ (restOf s A ++ doubOf s A) ++ O, r.length = s.length := fun r hr => by
    rcases List.mem_append.mp hr with q | q
    · exact hlt r q
    · rw [hsl]
      exact h.len r (List.mem_append_right _ q)
  have hpR : (A ++ O).Perm (s :: ((restOf s A ++ doubOf s A) ++ O)) := hA.append_right O
  have hnew : (s :: ((restOf s A ++ doubOf s A) ++ O).map (red k s)) = s :: (chgOf k s A ++ O) := by
    rw [List.map_append, hO]
    rfl
  have hq : ((s :: (chgOf k s A).filter fun r => at_ r k != 0) ++ (O ++ (chgOf k s A).filter fun r => at_ r k == 0)).Perm (s :: (chgOf k s A ++ O)) := by
    have e : (fun r : Row => !(at_ r k != 0)) = fun r => at_ r k == 0 := by
      funext r
      simp [bne]
    have h2 := filter_split (fun r => at_ r k != 0) (chgOf k s A)
    rw [e] at h2
    refine List.Perm.cons s ?_
    refine List.Perm.trans ?_ (h2.append_right O)
    rw [List.append_assoc]
    exact List.Perm.append_left _ List.perm_append_comm
  have hr := round h.siz hpR hT hs0 (fun r hr hz => by
    rcases List.mem_append.mp hr with q | q
    · exact hmt r q hz
    · exact absurd (h.oth r q) hz) (by
    obtain ⟨r, hr, hz⟩ := hne
    exact ⟨r, List.mem_append_left _ hr, hz⟩)
  have he := (Eqv.perm hpR).symm.trans h.eqv
  have hred := red_eqv (k := k) hT
  rw [hnew] at hr hred
  refine ⟨⟨fun r hr' => ?_, fun r hr' => ?_, fun r hr' => ?_, hr.perm hq.symm, fun r hr' => ?_, (Eqv.perm hq).trans (hred.symm.trans he), ?_⟩, ?_⟩
  · rcases List.mem_cons.mp (hq.mem_iff.mp hr') with e | hr'
    · rw [e]
      exact hsl
    · rcases List.mem_append.mp hr' with q | q
      · obtain ⟨z, hz, rfl⟩ := List.mem_map.mp q
        rw [len_red (hlt z hz)]
        exact hsl
      · exact h.len r (List.mem_append_right _ q)
  · rcases List.mem_cons.mp hr' with e | hr'
    · rw [e]
      exact hs0
    · simpa using (List.mem_filter.mp hr').2
  · rcases List.mem_append.mp hr' with q | q
    · exact h.oth r q
    · simpa using (List.mem_filter.mp q).2
  · rcases List.mem_cons.mp (hq.mem_iff.mp hr') with e | hr'
    · rw [e]
      exact h.top s (List.mem_append_left _ hs)
    · rcases List.mem_append.mp hr' with q | q
      · obtain ⟨z, hz, rfl⟩ := List.mem_map.mp q
        rw [at_red_k (hlt z hz)]
        have h2 := (fmod_lt (a := at_ z k) hs0).1
        have h3 := h.top s (List.mem_append_left _ hs)
        omega
      · exact h.top r (List.mem_append_right _ q)
  · rw [hq.length_eq, ← h.num, hpR.length_eq, List.length_cons, List.length_cons, List.length_append, List.length_append, chgOf, List.length_map]
  · have h2 := round_mes hA hlt hs0 hmt hne
    refine Nat.lt_of_le_of_lt ?_ h2
    have h3 : mes k (s :: (chgOf k s A).filter fun r => at_ r k != 0) = (at_ s k).natAbs + mes k ((chgOf k s A).filter fun r => at_ r k != 0) := by simp [mes]
    have h4 : mes k (s :: (restOf s A ++ doubOf s A).map (red k s)) = (at_ s k).natAbs + mes k (chgOf k s A) := by simp [mes, chgOf]
    rw [h3, h4]
    have h5 : ∀ l : List Row, mes k (l.filter fun r => at_ r k != 0) ≤ mes k l := fun l => by
      induction l with
      | nil => exact Nat.le_refl _
      | cons a l ih =>
        have e2 : mes k (a :: l) = (at_ a k).natAbs + mes k l := by simp [mes]
        rw [List.filter_cons, e2]
        split
        · have e3 : mes k (a :: l.filter fun r => at_ r k != 0) = (at_ a k).natAbs + mes k (l.filter fun r => at_ r k != 0) := by simp [mes]
          omega
        · omega
    have := h5 (chgOf k s A)
    omega
/-- what cleared gives -/
structure Clr (W k C D : Nat) (R0 : List Row) (pv : Option Row) (O : List Row) : Prop where
  len : ∀ r ∈ pv.toList ++ O, r.length = W
  piv : ∀ p ∈ pv, 0 < at_ p k ∧ (at_ p k).natAbs ≤ D
  oth : ∀ r ∈ O, at_ r k = 0
  bd : ∀ r ∈ pv.toList ++ O, Bd C r
  eqv : Eqv (pv.toList ++ O) R0
  num : (pv.toList ++ O).length = R0.length
def negR (r : Row) : Row := r.map fun x => -x
theorem at_neg (r : Row) (j : Nat) : at_ (negR r) j = -at_ r j := by
  unfold at_ negR
  rw [List.getD_eq_getElem?_getD, List.getD_eq_getElem?_getD, List.getElem?_map]
  cases r[j]? <;> simp
theorem CI.none {W k C D : Nat} {R0 O : List Row} (h : CI W k C D R0 [] O) : Clr W k C D R0 none O := ⟨h.len, (fun _ h => by cases h), h.oth, h.siz.bd, h.eqv, h.num⟩
theorem CI.some {W k C D : Nat} {R0 O : List Row} {p : Row} (h : CI W k C D R0 [p] O) : Clr W k C D R0 (some (if 0 < at_ p k then p else negR p)) O := by
  have hp0 := h.act p (.head _)
  by_cases hp : 0 < at_ p k
  · rw [if_pos hp]
    exact ⟨h.len, fun q hq => by cases hq; exact ⟨hp, h.top p (.head _)⟩, h.oth, h.siz.bd, h.eqv, h.num⟩
  · rw [if_neg hp]
    refine ⟨fun r hr => ?_, fun q hq => ?_, h.oth, fun r hr => ?_, Eqv.trans ?_ h.eqv, h.num⟩
    · rcases List.mem_cons.mp hr with e | hr
      · rw [e, negR, List.length_map]
        exact h.len p (.head _)
      · exact h.len r (List.mem_cons_of_mem _ hr)
    · cases hq
      rw [at_neg]
      have := h.top p (.head _)
      omega
    · rcases List.mem_cons.mp hr with e | hr
      · rw [e]
        intro j
        rw [at_neg, Int.natAbs_neg]
        exact h.siz.bd p (.head _) j
      · exact h.siz.bd r (List.mem_cons_of_mem _ hr)
    · refine .of (fun r hr => ?_) (fun r hr => ?_)
      · rcases List.mem_cons.mp hr with e | hr
        · rw [e]
          exact (Spn.smul (-1) (Spn.row (List.mem_cons_self (a := p)))).cg fun j => by rw [at_neg]; omega
        · exact .row (List.mem_cons_of_mem _ hr)
      · rcases List.mem_cons.mp hr with e | hr
        · rw [e]
          exact (Spn.smul (-1) (Spn.row (List.mem_cons_self (a := negR p)))).cg fun j => by rw [at_neg]; omega
        · exact .row (List.mem_cons_of_mem _ hr)

/-! ### echelon -/
def Lead (r : Row) (c : Nat) : Prop := (∀ j, j < c → at_ r j = 0) ∧ 0 < at_ r c
theorem Lead.uniq {r : Row} {c d : Nat} (h : Lead r c) (g : Lead r d) : c = d := by
  rcases Nat.lt_trichotomy c d with q | q | q
  · have := g.1 c q
    have := h.2
    omega
  · exact q
  · have := h.1 d q
    have := g.2
    omega
/-- what the columns below k have given: basis from the last one back -/
structure TI (W w k : Nat) (R0 basis rest : List Row) : Prop where
  len : ∀ r ∈ basis ++ rest, r.length = W
  lead : ∀ b ∈ basis, ∃ c, c < k ∧ Lead b c ∧ (at_ b c).natAbs ≤ 2 ^ beta c ∧ Bd (2 ^ beta (c + 1)) b
  ech : basis.Pairwise fun a b => ∀ c, Lead b c → ∀ j, j ≤ c → at_ a j = 0
  desc : basis.Pairwise fun a b => ∀ c d, Lead a c → Lead b d → d < c
  zero : ∀ r ∈ rest, ∀ j, j < k → at_ r j = 0
  bd : ∀ r ∈ rest, Bd (2 ^ beta k) r
  eqv : Eqv (basis ++ rest) R0
  num : (basis ++ rest).length = R0.length
theorem TI.init {W w : Nat} {R0 : List Row} (hl : ∀ r ∈ R0, r.length = W) (hb : ∀ r ∈ R0, Bd (2 ^ 20) r) : TI W w 0 R0 [] R0 := ⟨hl, (fun _ h => by cases h), .nil, .nil, fun _ _ j h => by omega, hb, .rfl', rfl⟩
theorem TI.step {W w k : Nat} {R0 basis rest O : List Row} {pv : Option Row} (h : TI W w k R0 basis rest) (hc : Clr W k (2 ^ beta (k + 1)) (2 ^ beta k) rest pv O) : TI W w (k + 1) R0 (pv.toList ++ basis) O := by
  have hz : ∀ r ∈ pv.toList ++ O, ∀ j, j < k → at_ r j = 0 := fun r hr j hj => by
    have h1 : Spn rest (at_ r) := (hc.eqv _).mp (.row hr)
    exact h1.col fun q hq => h.zero q hq j hj
  have hlead : ∀ p ∈ pv, Lead p k := fun p hp => ⟨fun j hj => hz p (List.mem_append_left _ (by simpa using hp)) j hj, (hc.piv p hp).1⟩
  refine ⟨fun r hr => ?_, fun b hb => ?_, ?_, ?_, fun r hr j hj => ?_, fun r hr => hc.bd r (List.mem_append_right _ hr), ?_, ?_⟩
  · rw [List.append_assoc] at hr
    rcases List.mem_append.mp hr with q | q
    · exact hc.len r (List.mem_append_left _ q)
    · rcases List.mem_append.mp q with q | q
      · exact h.len r (List.mem_append_left _ q)
      · exact hc.len r (List.mem_append_right _ q)
  · rcases List.mem_append.mp hb with q | q
    · have q' : b ∈ pv := by simpa using q
      exact ⟨k, Nat.lt_succ_self k, hlead b q', (hc.piv b q').2, hc.bd b (List.mem_append_left _ q)⟩
    · obtain ⟨c, h1, h2⟩ := h.lead b q
      exact ⟨c, Nat.lt_succ_of_lt h1, h2⟩
  · cases pv with
    | none => exact h.ech
    | some p =>
      refine List.pairwise_cons.mpr ⟨fun b hb c hl j hj => ?_, h.ech⟩
      obtain ⟨d, h1, h2, _⟩ := h.lead b hb
      have := h2.uniq hl
      exact hz p (.head _) j (by omega)
  · cases pv with
    | none => exact h.desc
    | some p =>
      refine List.pairwise_cons.mpr ⟨fun b hb c d hl hl2 => ?_, h.desc⟩
      obtain ⟨e, h1, h2, _⟩ := h.lead b hb
      have := h2.uniq hl2
      have := hl.uniq (hlead p rfl)
      omega
  · rcases Nat.lt_succ_iff_lt_or_eq.mp hj with q | q
    · exact hz r (List.mem_append_right _ hr) j q
    · rw [q]
      exact hc.oth r hr
  · have hp : ((pv.toList ++ basis) ++ O).Perm (basis ++ (pv.toList ++ O)) := by
      rw [List.append_assoc, ← List.append_assoc basis]
      rw [← List.append_assoc]
      exact List.perm_append_comm.append_right O
    exact (Eqv.perm hp).trans ((Eqv.app .rfl' hc.eqv).trans h.eqv)
  · have h1 := hc.num
    have h2 := h.num
    rw [List.length_append] at *
    rw [List.length_append]
    omega

/-! ### reduced_by -/
def fp (w : Nat) (r : Row) : Option Nat := (List.range w).find? fun j => at_ r j != 0
theorem fp_lead {w c : Nat} {r : Row} (h : Lead r c) (hc : c < w) : fp w r = some c := by
  unfold fp
  rw [List.find?_range_eq_some]
  refine ⟨by have := h.2; simp; omega, List.mem_range.mpr hc, fun j hj => ?_⟩
  have := h.1 j hj
  simp [this]
def redBy (w : Nat) (basis : List Row) (v : Row) : Row := basis.foldl (fun f r => red ((fp w r).getD 0) r f) v
/-- an ascending triangle; the bits of its rows together -/
structure Tri (W w : Nat) (T : List Row) : Prop where
  len : ∀ r ∈ T, r.length = W
  lead : ∀ b ∈ T, ∃ c, c < w ∧ Lead b c ∧ (at_ b c).natAbs ≤ 2 ^ 5828
  ech : T.Pairwise fun a b => ∀ c, Lead a c → ∀ j, j ≤ c → at_ b j = 0
theorem Tri.tail {W w : Nat} {b : Row} {T : List Row} (h : Tri W w (b :: T)) : Tri W w T := ⟨fun r hr => h.len r (List.mem_cons_of_mem _ hr), fun r hr => h.lead r (List.mem_cons_of_mem _ hr), (List.pairwise_cons.mp h.ech).2⟩
theorem red_lead {c : Nat} {b v : Row} (hl : v.length = b.length) (hb : Lead b c) : (∀ j, j < c → at_ (red c b v) j = at_ v j) ∧ 0 ≤ at_ (red c b v) c ∧ at_ (red c b v) c < at_ b c := by
  refine ⟨fun j hj => ?_, ?_, ?_⟩
  · rw [at_red hl, hb.1 j hj]
    simp
  · rw [at_red_k hl]
    exact Int.fmod_nonneg_of_pos _ hb.2
  · rw [at_red_k hl]
    exact Int.fmod_lt_of_pos _ hb.2
theorem redBy_cons {w c : Nat} {b v : Row} {T : List Row} (hb : Lead b c) (hc : c < w) : redBy w (b :: T) v = redBy w T (red c b v) := by
  unfold redBy
  rw [List.foldl_cons, fp_lead hb hc]
  rfl
/-- what reduced_by gives -/
theorem redBy_ok {W w : Nat} : ∀ {T : List Row} {v : Row}, Tri W w T → v.length = W → (redBy w T v).length = W ∧ Spn T (fun j => at_ (redBy w T v) j - at_ v j) ∧ (∀ j, (∀ b ∈ T, at_ b j = 0) → at_ (redBy w T v) j = at_ v j) ∧ (∀ b ∈ T, ∀ c, Lead b c → 0 ≤ at_ (redBy w T v) c ∧ at_ (redBy w T v) c < at_ b c)
  | [], v, _, hv => ⟨hv, Spn.zero.cg fun j => by show (0 : Int) = at_ v j - at_ v j; omega, fun _ _ => rfl, fun _ h => by cases h⟩
  | b :: T, v, h, hv => by
    obtain ⟨c, hc, hb, _⟩ := h.lead b (.head _)
    have hbl : b.length = W := h.len b (.head _)
    have hvb : v.length = b.length := by rw [hv, hbl]
    obtain ⟨i1, i2, i3, i4⟩ := redBy_ok (T := T) (v := red c b v) h.tail (by rw [len_red hvb, hbl])
    rw [redBy_cons hb hc]
    obtain ⟨r1, r2, r3⟩ := red_lead hvb hb
    have hzc : ∀ q ∈ T, at_ q c = 0 := fun q hq => (List.pairwise_cons.mp h.ech).1 q hq c hb c (Nat.le_refl _)
    refine ⟨i1, ?_, fun j hj => ?_, fun q hq d hd => ?_⟩
    · refine (Spn.lin (i2.mono fun _ => List.mem_cons_of_mem _) (-((at_ v c).fdiv (at_ b c))) (.row (.head _))).cg fun j => ?_
      rw [at_red hvb, Int.neg_mul]
      omega
    · rw [i3 j fun q hq => hj q (List.mem_cons_of_mem _ hq), at_red hvb, hj b (.head _)]
      simp
    · rcases List.mem_cons.mp hq with e | hq
      · subst e
        have := hb.uniq hd
        subst this
        rw [i3 c hzc]
        exact ⟨r2, r3⟩
      · exact i4 q hq d hd
/-- within the lattice, below the pivots: nothing -/
theorem tri_zero {W w : Nat} {S : List Row} (hS : ∀ r ∈ S, ∀ j, j < w → at_ r j = 0) : ∀ {T : List Row} {f : Nat → Int}, Tri W w T → Spn (T ++ S) f → (∀ b ∈ T, ∀ c, Lead b c → 0 ≤ f c ∧ f c < at_ b c) → ∀ j, j < w → f j = 0
  | [], f, _, hf, _, j, hj => hf.col fun r hr => hS r hr j hj
  | b :: T, f, h, hf, hp, j, hj => by
    obtain ⟨c, hc, hb, _⟩ := h.lead b (.head _)
    have key : ∃ k g, Spn (T ++ S) g ∧ ∀ j, f j = g j + k * at_ b j := by
      refine hf.prop (fun f => ∃ k g, Spn (T ++ S) g ∧ ∀ j, f j = g j + k * at_ b j) ⟨0, _, .zero, fun j => by simp⟩ fun f r k ⟨k0, g, hg, e⟩ hr => ?_
      rcases List.mem_cons.mp hr with q | q
      · subst q
        exact ⟨k0 + k, g, hg, fun j => by dsimp only; rw [e, Int.add_mul]; omega⟩
      · exact ⟨k0, _, .add k hg q, fun j => by dsimp only; rw [e]; omega⟩
    obtain ⟨k, g, hg, e⟩ := key
    have hg0 : g c = 0 := hg.col fun q hq => by
      rcases List.mem_append.mp hq with z | z
      · exact (List.pairwise_cons.mp h.ech).1 q z c hb c (Nat.le_refl _)
      · exact hS q z c hc
    have h1 := hp b (.head _) c hb
    rw [e c, hg0, Int.zero_add] at h1
    have hk : k = 0 := by
      have hb0 := hb.2
      rcases Int.lt_trichotomy k 0 with q | q | q
      · have := Int.mul_neg_of_neg_of_pos q hb0
        omega
      · exact q
      · have : 1 * at_ b c ≤ k * at_ b c := Int.mul_le_mul_of_nonneg_right (by omega) (by omega)
        omega
    have hfg : f = g := funext fun j => by rw [e j, hk]; simp
    rw [hfg]
    rw [hfg] at hp
    exact tri_zero hS h.tail hg (fun q hq => hp q (List.mem_cons_of_mem _ hq)) j hj
end Mt
/-! text Md -/
set_option linter.all false
namespace Mt
/-! Sizes of reduced rows; the reduced triangle; factors. -/
def mx (r : Row) : Nat := r.foldr (fun x m => max x.natAbs m) 0
theorem mx_cons (a : Int) (r : Row) : mx (a :: r) = max a.natAbs (mx r) := rfl
theorem mx_ge : ∀ (r : Row) (j : Nat), (at_ r j).natAbs ≤ mx r
  | [], j => by simp [at_]
  | a :: r, 0 => by
    rw [mx_cons]
    exact Nat.le_max_left ..
  | a :: r, j + 1 => by
    rw [mx_cons]
    exact Nat.le_trans (mx_ge r j) (Nat.le_max_right ..)
theorem mx_le {N : Nat} : ∀ {r : Row}, Bd N r → mx r ≤ N
  | [], _ => Nat.zero_le _
  | a :: r, h => by
    rw [mx_cons]
    exact Nat.max_le.mpr ⟨h 0, mx_le (r := r) fun j => h (j + 1)⟩
/-- bits -/
def bt (r : Row) : Nat := (mx r).log2 + 1
theorem bt_lt (r : Row) (j : Nat) : (at_ r j).natAbs < 2 ^ bt r := Nat.lt_of_le_of_lt (mx_ge r j) Nat.lt_log2_self
theorem bt_bd (r : Row) : Bd (2 ^ bt r) r := fun j => Nat.le_of_lt (bt_lt r j)
theorem bt_le {n : Nat} {r : Row} (h : Bd (2 ^ n) r) : bt r ≤ n + 1 := by
  have h1 := mx_le h
  unfold bt
  by_cases h0 : mx r = 0
  · rw [h0]
    simp
  · have h2 := Nat.log2_self_le h0
    have h3 : 2 ^ (mx r).log2 ≤ 2 ^ n := Nat.le_trans h2 h1
    have h4 := (Nat.pow_le_pow_iff_right (a := 2) (by decide)).mp h3
    omega
theorem red_bits {f g c : Nat} {b v : Row} (hl : v.length = b.length) (hb : at_ b c ≠ 0) (hv : Bd (2 ^ f) v) (hg : Bd (2 ^ g) b) : Bd (2 ^ (f + g + 2)) (red c b v) := fun j => by
  rw [at_red hl]
  have h1 : (at_ v j - (at_ v c).fdiv (at_ b c) * at_ b j).natAbs ≤ (at_ v j).natAbs + ((at_ v c).fdiv (at_ b c)).natAbs * (at_ b j).natAbs := by
    rw [← Int.natAbs_mul]
    omega
  have h2 := fdiv_any (a := at_ v c) hb
  have h3 : (at_ v c).natAbs / (at_ b c).natAbs ≤ 2 ^ f := Nat.le_trans (Nat.div_le_self ..) (hv c)
  have h4 : ((at_ v c).fdiv (at_ b c)).natAbs * (at_ b j).natAbs ≤ (2 ^ f + 1) * 2 ^ g := Nat.mul_le_mul (by omega) (hg j)
  have h5 := hv j
  have e : (2 : Nat) ^ (f + g + 2) = 2 ^ f * 2 ^ g * 4 := by rw [Nat.pow_add, Nat.pow_add]
  have e2 : (2 ^ f + 1) * 2 ^ g = 2 ^ f * 2 ^ g + 2 ^ g := by rw [Nat.add_mul, Nat.one_mul]
  have p1 : 1 ≤ 2 ^ f := Nat.one_le_two_pow
  have p2 : 1 ≤ 2 ^ g := Nat.one_le_two_pow
  have q1 : 2 ^ f * 1 ≤ 2 ^ f * 2 ^ g := Nat.mul_le_mul (Nat.le_refl _) p2
  have q2 : 1 * 2 ^ g ≤ 2 ^ f * 2 ^ g := Nat.mul_le_mul p1 (Nat.le_refl _)
  rw [e]
  omega
def tot (T : List Row) : Nat := (T.map fun r => bt r + 2).sum
theorem tot_cons (r : Row) (T : List Row) : tot (r :: T) = bt r + 2 + tot T := by simp [tot]
theorem redBy_bits {W w f : Nat} : ∀ {T : List Row} {v : Row}, Tri W w T → v.length = W → Bd (2 ^ f) v → Bd (2 ^ (f + tot T)) (redBy w T v)
  | [], v, _, _, hb => hb
  | b :: T, v, h, hv, hbd => by
    obtain ⟨c, hc, hb, _⟩ := h.lead b (.head _)
    have hbl := h.len b (.head _)
    have hvb : v.length = b.length := by rw [hv, hbl]
    have hb0 : at_ b c ≠ 0 := by
      have := hb.2
      omega
    rw [redBy_cons hb hc, tot_cons]
    have h1 := redBy_bits (f := f + bt b + 2) h.tail (by rw [len_red hvb, hbl]) (red_bits hvb hb0 hbd (bt_bd b))
    rw [show f + (bt b + 2 + tot T) = f + bt b + 2 + tot T by omega]
    exact h1
/-- the bits of the rows with leads from k on, reduced: at most this in all -/
def tau : Nat → Nat
  | 0 => 0
  | n + 1 => 2 * tau n + beta (6 - n) + 4
theorem tau_mono : ∀ {m n : Nat}, m ≤ n → tau m ≤ tau n := fun {m n} h => by
  induction h with
  | refl => exact Nat.le_refl _
  | step _ ih =>
    refine Nat.le_trans ih ?_
    show _ ≤ 2 * tau _ + _ + 4
    omega
theorem beta_mono : ∀ {m n : Nat}, m ≤ n → beta m ≤ beta n := fun {m n} h => by
  induction h with
  | refl => exact Nat.le_refl _
  | step _ ih =>
    refine Nat.le_trans ih ?_
    show _ ≤ 3 * beta _ + 8
    omega
theorem tau6 : tau 6 = 671832 := by decide
theorem beta5 : beta 5 = 5828 := by decide
theorem beta6 : beta 6 = 17492 := by decide
def redAll (w : Nat) (basis : List Row) : List Row := basis.foldl (fun acc row => redBy w acc row :: acc) []
/-- while the basis is reduced, from the last row back: acc from the rows done, todo the rest -/
structure RI (W w : Nat) (done acc todo : List Row) : Prop where
  tri : Tri W w acc
  eqv : Eqv acc done
  num : acc.length = done.length
  bits : ∃ k, k ≤ w ∧ (∀ b ∈ acc, ∀ c, Lead b c → k ≤ c) ∧ (∀ b ∈ todo, ∀ c, Lead b c → c < k) ∧ tot acc ≤ tau (6 - k)
  len : ∀ r ∈ todo, r.length = W
  lead : ∀ b ∈ todo, ∃ c, c < w ∧ Lead b c ∧ (at_ b c).natAbs ≤ 2 ^ beta c ∧ Bd (2 ^ beta (c + 1)) b
  ech : ∀ a ∈ acc, ∀ b ∈ todo, ∀ c, Lead b c → ∀ j, j ≤ c → at_ a j = 0
  eche : todo.Pairwise fun a b => ∀ c, Lead b c → ∀ j, j ≤ c → at_ a j = 0
  desc : todo.Pairwise fun a b => ∀ c d, Lead a c → Lead b d → d < c
theorem RI.init {W w : Nat} {R0 basis rest : List Row} (h : TI W w w R0 basis rest) (hw : w ≤ 6) : RI W w [] [] basis := by
  refine ⟨⟨(fun _ h => by cases h), (fun _ h => by cases h), .nil⟩, .rfl', rfl, ⟨w, Nat.le_refl _, (fun _ h => by cases h), fun b hb c hl => ?_, Nat.zero_le _⟩, fun r hr => h.len r (List.mem_append_left _ hr), h.lead, (fun _ h => by cases h), h.ech, h.desc⟩
  obtain ⟨d, h1, h2, _⟩ := h.lead b hb
  have := h2.uniq hl
  omega
theorem RI.step {W w : Nat} {done acc todo : List Row} {row : Row} (h : RI W w done acc (row :: todo)) (hw : w ≤ 6) : RI W w (done ++ [row]) (redBy w acc row :: acc) todo := by
  obtain ⟨c, hc, hl, hp, hbd⟩ := h.lead row (.head _)
  have hlen := h.len row (.head _)
  obtain ⟨u1, u2, u3, u4⟩ := redBy_ok h.tri hlen
  have hcol : ∀ j, j ≤ c → at_ (redBy w acc row) j = at_ row j := fun j hj => u3 j fun b hb => h.ech b hb row (.head _) c hl j hj
  have hlu : Lead (redBy w acc row) c := ⟨fun j hj => by rw [hcol j (Nat.le_of_lt hj)]; exact hl.1 j hj, by rw [hcol c (Nat.le_refl _)]; exact hl.2⟩
  obtain ⟨k, hk, hk1, hk2, hk3⟩ := h.bits
  have hck := hk2 row (.head _) c hl
  refine ⟨⟨fun r hr => ?_, fun b hb => ?_, ?_⟩, ?_, ?_, ⟨c, Nat.le_of_lt hc, fun b hb d hd => ?_, fun b hb d hd => ?_, ?_⟩, fun r hr => h.len r (List.mem_cons_of_mem _ hr), fun r hr => h.lead r (List.mem_cons_of_mem _ hr), fun a ha b hb d hd j hj => ?_, (List.pairwise_cons.mp h.eche).2, (List.pairwise_cons.mp h.desc).2⟩
  · rcases List.mem_cons.mp hr with e | hr
    · rw [e]
      exact u1
    · exact h.tri.len r hr
  · rcases List.mem_cons.mp hb with e | hb
    · rw [e]
      refine ⟨c, hc, hlu, ?_⟩
      rw [hcol c (Nat.le_refl _)]
      refine Nat.le_trans hp (Nat.pow_le_pow_right (by decide) ?_)
      rw [← beta5]
      exact beta_mono (by omega)
    · exact h.tri.lead b hb
  · refine List.pairwise_cons.mpr ⟨fun b hb d hd j hj => ?_, h.tri.ech⟩
    have := hlu.uniq hd
    subst this
    exact h.ech b hb row (.head _) c hl j hj
  · have h1 : Eqv (redBy w acc row :: acc) (row :: acc) := .of (fun r hr => by
        rcases List.mem_cons.mp hr with e | hr
        · rw [e]
          refine (Spn.plus (u2.mono fun _ => List.mem_cons_of_mem _) (.row (.head _))).cg fun j => by omega
        · exact .row (List.mem_cons_of_mem _ hr)) (fun r hr => by
        rcases List.mem_cons.mp hr with e | hr
        · rw [e]
          exact (Spn.lin (.row (.head _)) (-1) (u2.mono fun _ => List.mem_cons_of_mem _)).cg fun j => by omega
        · exact .row (List.mem_cons_of_mem _ hr))
    have h2 : Eqv (row :: acc) (row :: done) := Eqv.app (R := [row]) .rfl' h.eqv
    have h3 : (row :: done).Perm (done ++ [row]) := List.perm_append_comm (l₁ := [row])
    exact h1.trans (h2.trans (Eqv.perm h3))
  · rw [List.length_cons, List.length_append, h.num]
    rfl
  · rcases List.mem_cons.mp hb with e | hb
    · rw [e] at hd
      rw [hlu.uniq hd]
      exact Nat.le_refl _
    · have := hk1 b hb d hd
      omega
  · exact (List.pairwise_cons.mp h.desc).1 b hb c d hl hd
  · rw [tot_cons]
    have h1 := bt_le hbd
    have h2 := bt_le (redBy_bits h.tri hlen (bt_bd row))
    have h3 : tau (6 - c) = 2 * tau (5 - c) + beta (c + 1) + 4 := by
      rw [show 6 - c = (5 - c) + 1 by omega]
      show 2 * tau (5 - c) + beta (6 - (5 - c)) + 4 = _
      rw [show 6 - (5 - c) = c + 1 by omega]
    have h4 : tau (6 - k) ≤ tau (5 - c) := tau_mono (by omega)
    omega
  · rcases List.mem_cons.mp ha with e | ha
    · rw [e]
      have h1 := (List.pairwise_cons.mp h.eche).1 b hb d hd j hj
      have h2 := (List.pairwise_cons.mp h.desc).1 b hb c d hl hd
      rw [hcol j (by omega)]
      exact h1
    · exact h.ech a ha b (List.mem_cons_of_mem _ hb) d hd j hj
theorem RI.fin {W w : Nat} {done acc : List Row} (h : RI W w done acc []) (hw : w ≤ 6) : Tri W w acc ∧ Eqv acc done ∧ tot acc ≤ 671832 := by
  refine ⟨h.tri, h.eqv, ?_⟩
  obtain ⟨k, hk, _, _, hk3⟩ := h.bits
  have := tau_mono (show 6 - k ≤ 6 by omega)
  rw [tau6] at this
  omega
theorem RI.tot_le {W w : Nat} {done acc todo : List Row} (h : RI W w done acc todo) : tot acc ≤ 671832 := by
  obtain ⟨k, hk, _, _, hk3⟩ := h.bits
  have := tau_mono (show 6 - k ≤ 6 by omega)
  rw [tau6] at this
  omega

/-! ### factors -/
def comb : List Int → List Row → Nat → Int
  | c :: f, r :: R, j => c * at_ r j + comb f R j
  | _, _, _ => 0
/-- the row i with its unit behind it -/
def unit (m i : Nat) : Row := (List.range m).map fun k => if k = i then 1 else 0
def track (R : List Row) : List Row := List.zipWith (fun r i => r ++ unit R.length i) R (List.range R.length)
def coef (w m : Nat) (t : Nat → Int) : List Int := (List.range m).map fun i => t (w + i)
theorem comb_lin {f g : List Int} (k : Int) : ∀ {R : List Row} {j : Nat}, f.length = g.length → comb (List.zipWith (fun a b => a + k * b) f g) R j = comb f R j + k * comb g R j := by
  induction f generalizing g with
  | nil =>
    intro R j h
    cases g with
    | nil => simp [comb]
    | cons b g => simp at h
  | cons a f ih =>
    intro R j h
    cases g with
    | nil => simp at h
    | cons b g =>
      cases R with
      | nil => simp [comb]
      | cons r R =>
        have := ih (g := g) (R := R) (j := j) (by simpa using h)
        show (a + k * b) * at_ r j + comb (List.zipWith (fun a b => a + k * b) f g) R j = a * at_ r j + comb f R j + k * (b * at_ r j + comb g R j)
        rw [this, Int.add_mul, Int.mul_add, Int.mul_assoc]
        omega
theorem comb_zero {m : Nat} : ∀ {R : List Row} {j : Nat}, comb (List.replicate m 0) R j = 0 := by
  induction m with
  | zero => intro R j; simp [comb]
  | succ m ih =>
    intro R j
    cases R with
    | nil => simp [comb, List.replicate_succ]
    | cons r R =>
      rw [List.replicate_succ]
      show 0 * at_ r j + comb (List.replicate m 0) R j = 0
      rw [ih]
      simp
theorem coef_len (w m : Nat) (t : Nat → Int) : (coef w m t).length = m := by simp [coef]
theorem coef_zero (w m : Nat) : coef w m (fun _ => 0) = List.replicate m 0 := by simp [coef, List.map_const']
theorem coef_lin (w m : Nat) (f g : Nat → Int) (k : Int) : coef w m (fun j => f j + k * g j) = List.zipWith (fun a b => a + k * b) (coef w m f) (coef w m g) := by
  unfold coef
  apply List.ext_getElem?
  intro i
  rw [List.getElem?_zipWith, List.getElem?_map, List.getElem?_map, List.getElem?_map]
  cases (List.range m)[i]? <;> rfl
/-- what every row of the tracked span has -/
def Rel (w : Nat) (R : List Row) (t : Nat → Int) : Prop := ∀ j, j < w → t j = comb (coef w R.length t) R j
theorem Rel.of_span {w : Nat} {R T : List Row} {t : Nat → Int} (h : Spn T t) (hr : ∀ r ∈ T, Rel w R (at_ r)) : Rel w R t := h.prop (Rel w R) (fun j _ => by rw [coef_zero, comb_zero]) fun f r k hf hr' j hj => by
  show f j + k * at_ r j = _
  rw [coef_lin, comb_lin k (by rw [coef_len, coef_len]), hf j hj, hr r hr' j hj]
theorem comb_get : ∀ {R : List Row} {f : List Int} {j i : Nat} {r : Row}, R[i]? = some r → f.length = R.length → (∀ k, k < f.length → f[k]? = some (if k = i then 1 else 0)) → comb f R j = at_ r j
  | [], f, j, i, r, h, _, _ => by simp at h
  | a :: R, [], j, i, r, _, h, _ => by simp at h
  | a :: R, c :: f, j, 0, r, h, hl, hf => by
    have e1 : a = r := by simpa using h
    have e2 : c = 1 := by simpa using hf 0 (by simp)
    have e3 : f = List.replicate f.length 0 := by
      apply List.ext_getElem?
      intro k
      by_cases hk : k < f.length
      · rw [List.getElem?_replicate, if_pos hk]
        have := hf (k + 1) (by simpa using hk)
        simpa using this
      · rw [List.getElem?_eq_none_iff.mpr (by omega), List.getElem?_eq_none_iff.mpr (by simp; omega)]
    show c * at_ a j + comb f R j = _
    rw [e1, e2, e3, comb_zero]
    simp
  | a :: R, c :: f, j, i + 1, r, h, hl, hf => by
    have e2 : c = 0 := by simpa using hf 0 (by simp)
    have ih := comb_get (R := R) (f := f) (j := j) (i := i) (r := r) (by simpa using h) (by simpa using hl) fun k hk => by
      have := hf (k + 1) (by simpa using hk)
      simpa using this
    show c * at_ a j + comb f R j = _
    rw [e2, ih]
    simp
theorem at_app_l {x y : Row} {j : Nat} (h : j < x.length) : at_ (x ++ y) j = at_ x j := by
  unfold at_
  rw [List.getD_eq_getElem?_getD, List.getD_eq_getElem?_getD, List.getElem?_append_left h]
theorem at_app_r {x y : Row} {i : Nat} : at_ (x ++ y) (x.length + i) = at_ y i := by
  unfold at_
  rw [List.getD_eq_getElem?_getD, List.getD_eq_getElem?_getD, List.getElem?_append_right (by omega), Nat.add_sub_cancel_left]
theorem unit_len (m i : Nat) : (unit m i).length = m := by simp [unit]
theorem at_unit {m i k : Nat} (h : k < m) : at_ (unit m i) k = if k = i then 1 else 0 := by
  unfold at_ unit
  rw [List.getD_eq_getElem?_getD, List.getElem?_map, List.getElem?_range h]
  rfl
theorem track_mem {R : List Row} {t : Row} (h : t ∈ track R) : ∃ i r, R[i]? = some r ∧ t = r ++ unit R.length i := by
  obtain ⟨i, hi, e⟩ := List.mem_iff_getElem.mp h
  have hl : (track R).length = R.length := by simp [track]
  rw [hl] at hi
  refine ⟨i, R[i], by simp [hi], ?_⟩
  rw [← e]
  simp [track]
theorem track_at {R : List Row} {i : Nat} {r : Row} (h : R[i]? = some r) : r ++ unit R.length i ∈ track R := by
  have hi := (List.getElem?_eq_some_iff.mp h).1
  refine List.mem_iff_getElem?.mpr ⟨i, ?_⟩
  unfold track
  rw [List.getElem?_zipWith, h, List.getElem?_range hi]
theorem track_rel {w : Nat} {R : List Row} (hR : ∀ r ∈ R, r.length = w) : ∀ t ∈ track R, Rel w R (at_ t) := fun t ht j hj => by
  obtain ⟨i, r, hr, rfl⟩ := track_mem ht
  have hl := hR r (List.mem_of_getElem? hr)
  rw [at_app_l (by omega)]
  refine (comb_get hr (coef_len ..) fun k hk => ?_).symm
  rw [coef_len] at hk
  unfold coef
  rw [List.getElem?_map, List.getElem?_range hk, Option.map_some, ← hl, at_app_r, at_unit hk]
/-- a combination of the rows is one of the tracked rows -/
theorem track_comb {w : Nat} {R : List Row} (hR : ∀ r ∈ R, r.length = w) : ∀ (f : List Int), ∃ g, Spn (track R) g ∧ ∀ j, j < w → g j = comb f R j := by
  have key : ∀ (n : Nat) (f : List Int), n ≤ R.length → ∃ g, Spn (track R) g ∧ ∀ j, j < w → g j = comb f (R.drop (R.length - n)) j := by
    intro n
    induction n with
    | zero =>
      intro f _
      refine ⟨_, .zero, fun j _ => ?_⟩
      rw [Nat.sub_zero, List.drop_length]
      cases f <;> simp [comb]
    | succ n ih =>
      intro f hn
      have hi : R.length - (n + 1) < R.length := by omega
      have e : R.drop (R.length - (n + 1)) = R[R.length - (n + 1)] :: R.drop (R.length - n) := by
        rw [List.drop_eq_getElem_cons hi]
        rw [show R.length - (n + 1) + 1 = R.length - n by omega]
      rw [e]
      cases f with
      | nil => exact ⟨_, .zero, fun j _ => by simp [comb]⟩
      | cons c f =>
        obtain ⟨g, hg, h⟩ := ih f (by omega)
        have hm := track_at (R := R) (i := R.length - (n + 1)) (r := R[R.length - (n + 1)]) (by simp [hi])
        refine ⟨_, .add c hg hm, fun j hj => ?_⟩
        have hl := hR _ (List.getElem_mem hi)
        show g j + c * at_ (R[R.length - (n + 1)] ++ unit R.length (R.length - (n + 1))) j = c * at_ R[R.length - (n + 1)] j + comb f (R.drop (R.length - n)) j
        rw [h j hj, at_app_l (by omega)]
        omega
  intro f
  have := key R.length f (Nat.le_refl _)
  rw [Nat.sub_self, List.drop_zero] at this
  exact this
/-- factors_of: none, or factors -/
theorem factors_ok {w : Nat} {R T rest : List Row} {vec : Row} (hR : ∀ r ∈ R, r.length = w) (hv : vec.length = w) (hT : Tri (w + R.length) w T) (hz : ∀ r ∈ rest, ∀ j, j < w → at_ r j = 0) (he : Eqv (T ++ rest) (track R)) :
    (∀ j, j < w → at_ (redBy w T (vec ++ List.replicate R.length 0)) j = 0) → ∀ j, j < w → at_ vec j = comb (((redBy w T (vec ++ List.replicate R.length 0)).drop w).map fun x => -x) R j := by
  intro h0 j hj
  have hvl : (vec ++ List.replicate R.length 0 : Row).length = w + R.length := by simp [hv]
  obtain ⟨u1, u2, _, _⟩ := redBy_ok hT hvl
  generalize hu : redBy w T (vec ++ List.replicate R.length 0) = u at *
  have h1 : Spn (track R) (fun j => at_ u j - at_ (vec ++ List.replicate R.length 0) j) := (he _).mp (u2.mono fun _ => List.mem_append_left _)
  have h2 := Rel.of_span h1 (track_rel hR) j hj
  dsimp only at h2
  rw [h0 j hj, at_app_l (by omega)] at h2
  have e : (u.drop w).map (fun x => -x) = List.zipWith (fun a b => a + -1 * b) (List.replicate R.length 0) (coef w R.length fun j => at_ u j - at_ (vec ++ List.replicate R.length 0) j) := by
    apply List.ext_getElem?
    intro i
    by_cases hi : i < R.length
    · rw [List.getElem?_map, List.getElem?_drop, List.getElem?_zipWith, List.getElem?_replicate, if_pos hi]
      unfold coef
      rw [List.getElem?_map, List.getElem?_range hi]
      have e1 : u[w + i]? = some (at_ u (w + i)) := by
        unfold at_
        rw [List.getD_eq_getElem?_getD, List.getElem?_eq_getElem (by omega)]
        rfl
      have e2 : at_ (vec ++ List.replicate R.length 0) (w + i) = 0 := by
        rw [← hv, at_app_r]
        unfold at_
        rw [List.getD_eq_getElem?_getD, List.getElem?_replicate, if_pos hi]
        rfl
      rw [e1, Option.map_some, Option.map_some]
      show some (-at_ u (w + i)) = some (0 + -1 * (at_ u (w + i) - at_ (vec ++ List.replicate R.length 0) (w + i)))
      rw [e2]
      congr 1
      omega
    · rw [List.getElem?_eq_none_iff.mpr (by simp [u1]; omega), List.getElem?_eq_none_iff.mpr (by simp [coef]; omega)]
  rw [e, comb_lin (-1) (by simp [coef]), comb_zero]
  omega
theorem factors_none {w : Nat} {R T rest : List Row} {vec : Row} (hR : ∀ r ∈ R, r.length = w) (hv : vec.length = w) (hT : Tri (w + R.length) w T) (hz : ∀ r ∈ rest, ∀ j, j < w → at_ r j = 0) (he : Eqv (T ++ rest) (track R))
    {f : List Int} (hf : ∀ j, j < w → at_ vec j = comb f R j) : ∀ j, j < w → at_ (redBy w T (vec ++ List.replicate R.length 0)) j = 0 := by
  have hvl : (vec ++ List.replicate R.length 0 : Row).length = w + R.length := by simp [hv]
  obtain ⟨u1, u2, _, u4⟩ := redBy_ok hT hvl
  obtain ⟨g, hg, hgj⟩ := track_comb hR f
  generalize hu : redBy w T (vec ++ List.replicate R.length 0) = u at *
  have h1 : Spn (T ++ rest) (fun j => (at_ u j - at_ (vec ++ List.replicate R.length 0) j) + g j) := Spn.plus (u2.mono fun _ => List.mem_append_left _) ((he _).mpr hg)
  have hsame : ∀ j, j < w → (at_ u j - at_ (vec ++ List.replicate R.length 0) j) + g j = at_ u j := fun j hj => by
    rw [at_app_l (by omega), hgj j hj, hf j hj]
    omega
  intro j hj
  have h2 := tri_zero hz hT h1 (fun b hb c hc => by
    obtain ⟨d, hd, hd2, _⟩ := hT.lead b hb
    have := hd2.uniq hc
    subst this
    rw [hsame d hd]
    exact u4 b hb d hc) j hj
  rw [← hsame j hj]
  exact h2
end Mt
/-! text Y4 -/
set_option Elab.async false
set_option linter.all false
set_option maxRecDepth 100000
namespace Y
open PySem PySem.Spec PyProof.Rows L2
section
variable {X : Cx} {L : List Addr} {e a b c tg iter : Expr} {G G1 G2 : Gam} {M M1 M2 M3 M' Mw Mf : Ml} {P P1 P2 P3 P' : VP} {pos : Pos} {i j : Nat} {x y z : Str} {B : Bs} {D : Ends} {rest : List Stmt}
/-! ### a, b = x, y -/
theorem xs_par {px py pt : Pos} {kt k2 pt2} (hc : X.calm = true) (hN : X.N.Nodup) (hi : X.N[i]? = some x) (hj : X.N[j]? = some y) (hij : i ≠ j)
    (hx : X.env.scope.names.lookup x = some .local) (hy : X.env.scope.names.lookup y = some .local) (ha : XA X L [a, b] G M [P1, P2] M1)
    (hr : XS X L rest B ((G.set i (some P1)).set j (some P2)) M1 D)
    (hw : swappedStores [.Tuple [.Name x px, .Name y py] kt pt] (.Tuple [a, b] k2 pt2) X.env = pure (some [x, y]) := by rfl)
    (hs : swapsWithSole [.Tuple [.Name x px, .Name y py] kt pt] (.Tuple [a, b] k2 pt2) pos.line X.env = pure false := by rfl) :
    XS X L (.Assign [.Tuple [.Name x px, .Name y py] kt pt] (.Tuple [a, b] k2 pt2) pos :: rest) B G M D :=
  xs_of (ps_par hc hN hi hj hij hx hy pWa hw hs) fun σ H ⟨H0, g, l, m, f⟩ => ha.then_ g.sub l m fun vs H1 H01 g1 s1 l1 m1 p1 => by
    match vs, p1 with
    | [v, w], ⟨h1, h2, _⟩ => exact ⟨v, w, rfl, hr.run _ H1 ⟨H01, g.trans g1 f, (l1.set h1).set h2, m1, by rw [ha.ad]; exact f⟩⟩
/-- three at once -/
def tPar3 (i j k : Nat) (ta : TA) : TS := fun D σ H => ta σ H fun vs H1 => ∃ u v w, vs = [u, v, w] ∧ D.nx (((σ.set i (some u)).set j (some v)).set k (some w)) H1
theorem ps_par3 {k : Nat} {c : Expr} {ta : TA} {px py pz pt : Pos} {kt k2 pt2} (hc : X.calm = true) (hN : X.N.Nodup) (hi : X.N[i]? = some x) (hj : X.N[j]? = some y) (hk : X.N[k]? = some z) (hij : i ≠ j) (hik : i ≠ k) (hjk : j ≠ k)
    (hx : X.env.scope.names.lookup x = some .local) (hy : X.env.scope.names.lookup y = some .local) (hz : X.env.scope.names.lookup z = some .local) (ha : PA X [a, b, c] ta)
    (hw : swappedStores [.Tuple [.Name x px, .Name y py, .Name z pz] kt pt] (.Tuple [a, b, c] k2 pt2) X.env = pure (some [x, y, z]))
    (hs : swapsWithSole [.Tuple [.Name x px, .Name y py, .Name z pz] kt pt] (.Tuple [a, b, c] k2 pt2) pos.line X.env = pure false) :
    PS X (.Assign [.Tuple [.Name x px, .Name y py, .Name z pz] kt pt] (.Tuple [a, b, c] k2 pt2) pos) (tPar3 i j k ta) := by
  refine ⟨fun pins s σ H D I h => ?_⟩
  rw [exec_Assign_arm]
  refine wpAny_bind (wpAny_standAt ?_)
  rw [hs]
  refine wpAny_bind (wpAny_pure ?_)
  rw [if_neg (by decide)]
  refine wpAny_bind (Tuple_ (thn (ha.run _ pins s σ H _ I h) fun us s1 ⟨vs, H1, I1, r1, q1⟩ => ?_))
  obtain ⟨v, w, t, e1, q1⟩ := q1
  subst e1
  obtain ⟨u1, u2, u3, rfl, rv, rw', rt'⟩ : ∃ u1 u2 u3, us = [u1, u2, u3] ∧ RelV v u1 ∧ RelV w u2 ∧ RelV t u3 := by
    cases r1 with
    | cons p q =>
      cases q with
      | cons p' q' =>
        cases q' with
        | cons p'' q'' =>
          cases q''
          exact ⟨_, _, _, rfl, p, p', p''⟩
  refine wpAny_newObj_type ?_ (by show 3 ≤ sizeLine; decide)
  have I2 : Inv X pins σ H1 { s1 with heap := s1.heap.push { cls := .type "tuple", data := .seq [u1, u2, u3].toArray } } := I1.kept (t' := s1.toks) fun b o e => Heap.get?_push_of_some _ e
  rw [hw]
  refine wpAny_bind (wpAny_pure ?_)
  show wpAny (model X.prog X.w) X.A (do rule "assign.swapped-stores"; let items ← unpackItems (.ref s1.heap.objs.size) 3 none; assignInOrder [fun v => bindName X.env z v, fun v => bindName X.env y v, fun v => bindName X.env x v] items.reverse; pure Flow.next) _ _ _
  refine wpAny_bind (wpAny_rule (wpAny_bind (unpackItems_tuple (items := #[u1, u2, u3]) (I.ok.hd hc) (IsTup.new s1.heap _) fun h' hx' => ?_)))
  have I3 := I2.kept (h' := h') (t' := s1.toks) fun b o e => hx' b o (Nat.ne_of_lt (Heap.lt_size e)) e
  show wpAny _ _ (assignInOrder [fun v => bindName X.env z v, fun v => bindName X.env y v, fun v => bindName X.env x v] [u3, u2, u1] >>= fun _ => pure Flow.next) _ _ _
  refine wpAny_bind (assignInOrder_cons (wpAny_bindName (store_ok I3 hN hk (.inl hz) rt' (fun s2 I4 => ?_) (.inr hz))))
  refine assignInOrder_cons (wpAny_bindName (store_ok I4 hN hj (.inl hy) rw' (fun s3 I5 => ?_) (.inr hy)))
  refine assignInOrder_cons (wpAny_bindName (store_ok I5 hN hi (.inl hx) rv (fun s4 I6 => assignInOrder_nil (wpAny_pure ?_)) (.inr hx)))
  have e : (((σ.set k (some t)).set j (some w)).set i (some v)) = (((σ.set i (some v)).set j (some w)).set k (some t)) := by
    rw [List.set_comm _ _ (Ne.symm hij), List.set_comm _ _ (Ne.symm hik), List.set_comm _ _ (Ne.symm hjk)]
  rw [e] at I6
  exact ⟨_, H1, I6, q1⟩
theorem xs_par3 {k : Nat} {c : Expr} {px py pz pt : Pos} {kt k2 pt2} (hc : X.calm = true) (hN : X.N.Nodup) (hi : X.N[i]? = some x) (hj : X.N[j]? = some y) (hk : X.N[k]? = some z) (hij : i ≠ j) (hik : i ≠ k) (hjk : j ≠ k)
    (hx : X.env.scope.names.lookup x = some .local) (hy : X.env.scope.names.lookup y = some .local) (hz : X.env.scope.names.lookup z = some .local) (ha : XA X L [a, b, c] G M [P1, P2, P3] M1)
    (hr : XS X L rest B (((G.set i (some P1)).set j (some P2)).set k (some P3)) M1 D)
    (hw : swappedStores [.Tuple [.Name x px, .Name y py, .Name z pz] kt pt] (.Tuple [a, b, c] k2 pt2) X.env = pure (some [x, y, z]) := by rfl)
    (hs : swapsWithSole [.Tuple [.Name x px, .Name y py, .Name z pz] kt pt] (.Tuple [a, b, c] k2 pt2) pos.line X.env = pure false := by rfl) :
    XS X L (.Assign [.Tuple [.Name x px, .Name y py, .Name z pz] kt pt] (.Tuple [a, b, c] k2 pt2) pos :: rest) B G M D :=
  xs_of (ps_par3 hc hN hi hj hk hij hik hjk hx hy hz pWa hw hs) fun σ H ⟨H0, g, l, m, f⟩ => ha.then_ g.sub l m fun vs H1 H01 g1 s1 l1 m1 p1 => by
    match vs, p1 with
    | [v, w, t], ⟨h1, h2, h3, _⟩ => exact ⟨v, w, t, rfl, hr.run _ H1 ⟨H01, g.trans g1 f, ((l1.set h1).set h2).set h3, m1, by rw [ha.ad]; exact f⟩⟩
/-- (a, b, ..) = a list -/
theorem xg_unl {es : List Expr} {kk : Nat} {js : List Nat} {Ps : List VP} (hc : X.calm = true) (h : XGs X L es js Ps G G1) (hn : (assignEach es X.env).length = Ps.length := by rfl) (hst : (assignEach es X.env).findIdx? (·.1) = none := by rfl) : XG1 X L (.Tuple es kk pos) js (Ls Ps) G G1 := by
  obtain ⟨t, ht, h⟩ := h
  exact xg_of (pg_unl hc ht hn hst) fun v σ H H0 s l ⟨a, vs, e, ha, hv⟩ Q k => ⟨a, vs, e, SqL.of (s.lst ha), hv.len, h vs σ H H0 s l hv Q k⟩

/-! ### values -/
theorem rv_ixL {Ps : List VP} {n : Nat} (h : Ps[n]? = some P) : RV L (rIxL X.K) (Ls Ps) (Vl (.int (n : Int))) P := rv_of fun x y H H0 s ⟨a, vs, ev, ha, hv⟩ p2 Q k => by
  obtain ⟨v, e1, e2⟩ := hv.get h
  exact ⟨a, vs, n, v, ev, p2, SqL.of (s.lst ha), atI_nat e1, k v e2⟩
theorem rv_ixT {Ps : List VP} {n : Nat} (h : Ps[n]? = some P) : RV L (rIxT X.K) (Tp Ps) (Vl (.int (n : Int))) P := rv_of fun x y H H0 s ⟨a, vs, ev, ha, hv⟩ p2 Q k => by
  obtain ⟨v, e1, e2⟩ := hv.get h
  exact ⟨a, vs, n, v, ev, p2, SqT.of (s.tup ha), atI_nat e1, k v e2⟩
theorem rv_eqI {i j : Int} : RV L rEq (Vl (.int i)) (Vl (.int j)) (Vl (.bl (i == j))) := rv_of fun x y H H0 s p1 p2 Q k => by
  have p1 : x = .int i := p1
  have p2 : y = .int j := p2
  subst p1 p2
  exact ⟨rfl, by rw [dec_int]; exact k _ rfl⟩
theorem rv_neI {i j : Int} : RV L rNe (Vl (.int i)) (Vl (.int j)) (Vl (.bl (i != j))) := rv_of fun x y H H0 s p1 p2 Q k => by
  have p1 : x = .int i := p1
  have p2 : y = .int j := p2
  subst p1 p2
  exact ⟨rfl, by rw [dec_int]; exact k _ rfl⟩
theorem rv_neB {i j : Bool} : RV L rNe (Vl (.bl i)) (Vl (.bl j)) (Vl (.bl (i != j))) := rv_of fun x y H H0 s p1 p2 Q k => by
  have p1 : x = .bl i := p1
  have p2 : y = .bl j := p2
  subst p1 p2
  exact ⟨rfl, by rw [dec_bl]; exact k _ rfl⟩
/-- is None -/
theorem rv_isN {k : Bool} (h : ∀ v H, P.p v H → decide (v = V.non) = k) : RV L (fun x y H Q => y = .non ∧ Q (.bl (decide (x = .non))) H) P (Vl .non) (Vl (.bl k)) := rv_of fun x y H H0 s p1 p2 Q q => ⟨p2, by rw [h x H0 p1]; exact q _ rfl⟩
theorem rv_notN {k : Bool} (h : ∀ v H, P.p v H → decide (v = V.non) = k) : RV L (fun x y H Q => y = .non ∧ Q (.bl (!decide (x = .non))) H) P (Vl .non) (Vl (.bl (!k))) := rv_of fun x y H H0 s p1 p2 Q q => ⟨p2, by rw [h x H0 p1]; exact q _ rfl⟩
theorem ls_notN {Ps : List VP} : ∀ v H, (Ls Ps).p v H → decide (v = V.non) = false := fun v H ⟨a, vs, e, _⟩ => by
  subst e
  exact decide_eq_false (fun z => by cases z)
theorem tp_notN {Ps : List VP} : ∀ v H, (Tp Ps).p v H → decide (v = V.non) = false := fun v H ⟨a, vs, e, _⟩ => by
  subst e
  exact decide_eq_false (fun z => by cases z)
theorem non_isN : ∀ v H, (Vl .non).p v H → decide (v = V.non) = true := fun v H e => decide_eq_true e
/-! data -/
theorem dp_ints {K : PySem.W.Frag} {H : Hp} : ∀ {vs : List V} {xs : List Int}, AllP H vs (xs.map fun i => Vl (.int i)) → ∀ {H' : Hp}, DpAll K H' vs (xs.map PyData.int)
  | [], [], _, _ => .nil
  | [], _ :: _, h, _ => h.elim
  | _ :: _, [], h, _ => h.elim
  | v :: vs, x :: xs, h, H' => by
    have e : v = .int x := h.1
    subst e
    exact .cons (.int x) (dp_ints (vs := vs) (xs := xs) h.2)
theorem dp_il {K : PySem.W.Frag} {L : List Addr} {H0 H : Hp} (s : Sub L H0 H) {v : V} {xs : List Int} (h : (IL xs).p v H0) : Dp K H v (.list (xs.map PyData.int)) := by
  obtain ⟨a, vs, rfl, ha, hv⟩ := h
  exact .lst (SqL.of (s.lst ha)) (dp_ints hv)
theorem dp_ils {K : PySem.W.Frag} {L : List Addr} {H0 H : Hp} (s : Sub L H0 H) : ∀ {vs : List V} {xss : List (List Int)}, AllP H0 vs (xss.map IL) → DpAll K H vs (xss.map fun xs => .list (xs.map PyData.int))
  | [], [], _ => .nil
  | [], _ :: _, h => h.elim
  | _ :: _, [], h => h.elim
  | v :: vs, x :: xs, h => .cons (dp_il s h.1) (dp_ils s (vs := vs) (xss := xs) h.2)
theorem dp_ill {K : PySem.W.Frag} {L : List Addr} {H0 H : Hp} (s : Sub L H0 H) {v : V} {xss : List (List Int)} (h : (ILL xss).p v H0) : Dp K H v (.list (xss.map fun xs => .list (xs.map PyData.int))) := by
  obtain ⟨a, vs, rfl, ha, hv⟩ := h
  exact .lst (SqL.of (s.lst ha)) (dp_ils s hv)
end
end Y
/-! text Y5 -/
set_option Elab.async false
set_option linter.all false
set_option maxRecDepth 100000
namespace Y
open PySem PySem.Spec PyProof.Rows L2
/-! ### data compared -/
theorem canLay_ints : ∀ xs : List Int, PyData.canLayAll0 (xs.map PyData.int) = true
  | [] => by simp [PyData.canLayAll0]
  | x :: xs => by simp [PyData.canLayAll0, PyData.canLay0, canLay_ints xs]
theorem depth_ints : ∀ xs : List Int, PyData.depthAll (xs.map PyData.int) = 0
  | [] => by simp [PyData.depthAll]
  | x :: xs => by simp [PyData.depthAll, PyData.depth, depth_ints xs]
theorem shaped_ints (xs : List Int) : SeqAt.shaped (.list (xs.map PyData.int)) = true := by
  unfold SeqAt.shaped
  simp [PyData.canLay0, canLay_ints, PyData.depth, depth_ints]
theorem eqv_ints : ∀ xs ys : List Int, PyData.eqvAll (xs.map PyData.int) (ys.map PyData.int) = (xs == ys)
  | [], [] => by simp [PyData.eqvAll]
  | [], y :: ys => by simp [PyData.eqvAll]
  | x :: xs, [] => by simp [PyData.eqvAll]
  | x :: xs, y :: ys => by
    simp only [List.map_cons, PyData.eqvAll, PyData.eqv, eqv_ints xs ys]
    rfl
theorem canLay_ils : ∀ xss : List (List Int), PyData.canLayAll0 (xss.map fun xs => .list (xs.map PyData.int)) = true
  | [] => by simp [PyData.canLayAll0]
  | x :: xs => by simp [PyData.canLayAll0, PyData.canLay0, canLay_ints x, canLay_ils xs]
theorem depth_ils : ∀ xss : List (List Int), PyData.depthAll (xss.map fun xs => .list (xs.map PyData.int)) ≤ 1
  | [] => by simp [PyData.depthAll]
  | x :: xs => by
    have := depth_ils xs
    simp only [List.map_cons, PyData.depthAll, PyData.depth, depth_ints]
    omega
theorem shaped_ils (xss : List (List Int)) : SeqAt.shaped (.list (xss.map fun xs => .list (xs.map PyData.int))) = true := by
  have := depth_ils xss
  unfold SeqAt.shaped
  rw [Bool.and_eq_true]
  refine ⟨by simp only [PyData.canLay0, canLay_ils], decide_eq_true ?_⟩
  simp only [PyData.depth]
  omega
section
variable {X : Cx} {L : List Addr} {e a b c tg iter lo hi : Expr} {G G1 G2 : Gam} {M M1 M2 M3 M' Mw Mf : Ml} {P P1 P2 P3 P' : VP} {pos p2 : Pos} {i j : Nat} {x y z : Str} {B : Bs} {D : Ends} {rest : List Stmt} {K : PySem.W.Frag}
theorem rv_eqIL {xs ys : List Int} : RV L (rEqD K) (IL xs) (IL ys) (Vl (.bl (xs == ys))) := rv_of fun x y H H0 s p1 p2 Q k => ⟨_, _, dp_il s p1, dp_il s p2, shaped_ints _, shaped_ints _, k _ (by
  show V.bl (PyData.eqv (.list _) (.list _)) = _
  simp only [PyData.eqv, eqv_ints])⟩
theorem rv_neIL {xs ys : List Int} : RV L (rNeD K) (IL xs) (IL ys) (Vl (.bl (xs != ys))) := rv_of fun x y H H0 s p1 p2 Q k => ⟨_, _, dp_il s p1, dp_il s p2, shaped_ints _, shaped_ints _, k _ (by
  show V.bl (!PyData.eqv (.list _) (.list _)) = _
  simp only [PyData.eqv, eqv_ints]
  rfl)⟩
theorem rv_eqILL0 {xss : List (List Int)} : RV L (rEqD K) (ILL xss) (Ls []) (Vl (.bl xss.isEmpty)) := rv_of fun x y H H0 s p1 p2 Q k => ⟨_, _, dp_ill s p1, dp_ill (xss := []) s p2, shaped_ils _, shaped_ils _, k _ (by
  show V.bl (PyData.eqv (.list _) (.list _)) = _
  cases xss with
  | nil => simp [PyData.eqv, PyData.eqvAll]
  | cons x xs => simp [PyData.eqv, PyData.eqvAll])⟩
theorem rv_eqIL0 {xs : List Int} : RV L (rEqD K) (IL xs) (Ls []) (Vl (.bl xs.isEmpty)) := rv_of fun x y H H0 s p1 p2 Q k => ⟨_, _, dp_il s p1, dp_il (xs := []) s p2, shaped_ints _, shaped_ints _, k _ (by
  show V.bl (PyData.eqv (.list _) (.list _)) = _
  simp only [PyData.eqv, eqv_ints]
  cases xs <;> rfl)⟩
theorem rv_neIL0 {xs : List Int} : RV L (rNeD K) (IL xs) (Ls []) (Vl (.bl (!xs.isEmpty))) := rv_of fun x y H H0 s p1 p2 Q k => ⟨_, _, dp_il s p1, dp_il (xs := []) s p2, shaped_ints _, shaped_ints _, k _ (by
  show V.bl (!PyData.eqv (.list _) (.list _)) = _
  simp only [PyData.eqv, eqv_ints]
  cases xs <;> rfl)⟩

/-! ### built-ins -/
theorem all1 {H : Hp} {xs : List V} (h : AllP H xs [P]) : ∃ v, xs = [v] ∧ P.p v H := by
  match xs, h with
  | [v], ⟨h1, _⟩ => exact ⟨v, rfl, h1⟩
theorem all2 {H : Hp} {xs : List V} (h : AllP H xs [P, P']) : ∃ v w, xs = [v, w] ∧ P.p v H ∧ P'.p w H := by
  match xs, h with
  | [v, w], ⟨h1, h2, _⟩ => exact ⟨v, w, rfl, h1, h2⟩
theorem rc_lenL {Ps : List VP} : RC L (fun xs H Q => ∃ p ys, xs = [.ref p] ∧ (SqL K H p ys ∨ SqT K H p ys) ∧ Q (.int ys.length) H) [Ls Ps] (Vl (.int (Ps.length : Int))) := rc_of fun xs H H0 s hv Q k => by
  obtain ⟨v, rfl, a, vs, rfl, ha, hvs⟩ := all1 hv
  exact ⟨a, vs, rfl, .inl (SqL.of (s.lst ha)), by rw [hvs.len]; exact k _ rfl⟩
theorem rc_lenT {Ps : List VP} : RC L (fun xs H Q => ∃ p ys, xs = [.ref p] ∧ (SqL K H p ys ∨ SqT K H p ys) ∧ Q (.int ys.length) H) [Tp Ps] (Vl (.int (Ps.length : Int))) := rc_of fun xs H H0 s hv Q k => by
  obtain ⟨v, rfl, a, vs, rfl, ha, hvs⟩ := all1 hv
  exact ⟨a, vs, rfl, .inr (SqT.of (s.tup ha)), by rw [hvs.len]; exact k _ rfl⟩
theorem rc_abs {i : Int} : RC L (fun xs H Q => ∃ i, xs = [.int i] ∧ Q (.int (if i < 0 then -i else i)) H) [Vl (.int i)] (Vl (.int (i.natAbs : Int))) := rc_of fun xs H H0 s hv Q k => by
  obtain ⟨v, rfl, e⟩ := all1 hv
  have e : v = .int i := e
  subst e
  have : (if i < 0 then -i else i) = (i.natAbs : Int) := by split <;> omega
  exact ⟨i, rfl, by rw [this]; exact k _ rfl⟩
abbrev rInt1 : List V → Hp → VK → Prop := fun xs H Q => (∃ i, xs = [.int i] ∧ Q (.int i) H) ∨ ∃ k, xs = [.bl k] ∧ Q (.int (if k then 1 else 0)) H
theorem rc_int {i : Int} : RC L rInt1 [Vl (.int i)] (Vl (.int i)) := rc_of fun xs H H0 s hv Q k => by
  obtain ⟨v, rfl, e⟩ := all1 hv
  have e : v = .int i := e
  subst e
  exact .inl ⟨i, rfl, k _ rfl⟩
theorem rc_intI {f : Int → Prop} : RC L rInt1 [II f] (II f) := rc_of fun xs H H0 s hv Q k => by
  obtain ⟨v, rfl, i, fi, e⟩ := all1 hv
  subst e
  exact .inl ⟨i, rfl, k _ ⟨i, fi, rfl⟩⟩
theorem rc_intB {b : Bool} : RC L rInt1 [Vl (.bl b)] (Vl (.int (if b then 1 else 0))) := rc_of fun xs H H0 s hv Q k => by
  obtain ⟨v, rfl, e⟩ := all1 hv
  have e : v = .bl b := e
  subst e
  exact .inr ⟨b, rfl, k _ rfl⟩
abbrev rListOf (K : PySem.W.Frag) : List V → Hp → VK → Prop := fun xs H Q => ∃ p ys, xs = [.ref p] ∧ (SqL K H p ys ∨ SqT K H p ys) ∧ ∀ l, H l = none → Q (.ref l) (upd H l (.lst ys))
theorem rc_listL {Ps : List VP} : RC L (rListOf K) [Ls Ps] (Ls Ps) := fun xs H H0 s hv Q k => by
  obtain ⟨v, rfl, a, vs, rfl, ha, hvs⟩ := all1 hv
  refine ⟨a, vs, rfl, .inl (SqL.of (s.lst ha)), fun p hp => ?_⟩
  have g : Grow L [] H0 H (upd H0 p (.lst vs)) (upd H p (.lst vs)) := .alloc s hp
  exact k _ _ _ g ⟨p, vs, rfl, upd_same, hvs.mono g.pure⟩
theorem rc_listT {Ps : List VP} : RC L (rListOf K) [Tp Ps] (Ls Ps) := fun xs H H0 s hv Q k => by
  obtain ⟨v, rfl, a, vs, rfl, ha, hvs⟩ := all1 hv
  refine ⟨a, vs, rfl, .inr (SqT.of (s.tup ha)), fun p hp => ?_⟩
  have g : Grow L [] H0 H (upd H0 p (.lst vs)) (upd H p (.lst vs)) := .alloc s hp
  exact k _ _ _ g ⟨p, vs, rfl, upd_same, hvs.mono g.pure⟩
abbrev rTupOf (K : PySem.W.Frag) : List V → Hp → VK → Prop := fun xs H Q => ∃ p ys, xs = [.ref p] ∧ ((SqL K H p ys ∧ ∀ l, H l = none → Q (.ref l) (upd H l (.tup ys))) ∨ (SqT K H p ys ∧ Q (.ref p) H))
theorem rc_tupL {Ps : List VP} : RC L (rTupOf K) [Ls Ps] (Tp Ps) := fun xs H H0 s hv Q k => by
  obtain ⟨v, rfl, a, vs, rfl, ha, hvs⟩ := all1 hv
  refine ⟨a, vs, rfl, .inl ⟨SqL.of (s.lst ha), fun p hp => ?_⟩⟩
  have g : Grow L [] H0 H (upd H0 p (.tup vs)) (upd H p (.tup vs)) := .alloc s hp
  exact k _ _ _ g ⟨p, vs, rfl, upd_same, hvs.mono g.pure⟩
theorem bools_of {H : Hp} : ∀ {vs : List V} {bs : List Bool}, AllP H vs (bs.map fun b => Vl (.bl b)) → vs = bs.map V.bl
  | [], [], _ => rfl
  | [], _ :: _, h => h.elim
  | _ :: _, [], h => h.elim
  | v :: vs, b :: bs, h => by
    have e : v = .bl b := h.1
    rw [List.map_cons, e, bools_of (vs := vs) (bs := bs) h.2]
theorem ints_of' {H : Hp} : ∀ {vs : List V} {bs : List Int}, AllP H vs (bs.map fun b => Vl (.int b)) → vs = bs.map V.int
  | [], [], _ => rfl
  | [], _ :: _, h => h.elim
  | _ :: _, [], h => h.elim
  | v :: vs, b :: bs, h => by
    have e : v = .int b := h.1
    rw [List.map_cons, e, ints_of' (vs := vs) (bs := bs) h.2]
theorem rc_any {bs : List Bool} : RC L (rAny K) [Ls (bs.map fun b => Vl (.bl b))] (Vl (.bl (bs.any id))) := rc_of fun xs H H0 s hv Q k => by
  obtain ⟨v, rfl, a, vs, rfl, ha, hvs⟩ := all1 hv
  exact ⟨a, bs, rfl, by rw [← bools_of hvs]; exact SqL.of (s.lst ha), k _ rfl⟩
theorem rc_all {bs : List Bool} : RC L (rAll K) [Ls (bs.map fun b => Vl (.bl b))] (Vl (.bl (bs.all id))) := rc_of fun xs H H0 s hv Q k => by
  obtain ⟨v, rfl, a, vs, rfl, ha, hvs⟩ := all1 hv
  exact ⟨a, bs, rfl, by rw [← bools_of hvs]; exact SqL.of (s.lst ha), k _ rfl⟩
/-- the least of some ints -/
theorem rc_min {ns : List Int} (h : 0 < ns.length) : RC L (rMin K) [IL ns] (II fun m => m ∈ ns ∧ ∀ y ∈ ns, m ≤ y) := rc_of fun xs H H0 s hv Q k => by
  obtain ⟨v, rfl, a, vs, rfl, ha, hvs⟩ := all1 hv
  exact ⟨a, ns, rfl, by rw [← ints_of' hvs]; exact SqL.of (s.lst ha), h, fun m hm hle => k _ ⟨m, ⟨hm, hle⟩, rfl⟩⟩

/-! ### slices -/
theorem cut_drop (xs : List V) (n : Nat) : cutV xs (some (n : Int)) none = xs.drop n := by
  unfold cutV
  rw [HT.sIx_nat, HT.sIx_none]
  by_cases h : n ≤ xs.length
  · rw [Nat.min_eq_left h, List.take_of_length_le (by rw [List.length_drop]; omega)]
  · rw [Nat.min_eq_right (by omega), List.drop_eq_nil_of_le (Nat.le_refl _), List.drop_eq_nil_of_le (by omega)]
    simp
theorem cut_take (xs : List V) (n : Nat) : cutV xs none (some (n : Int)) = xs.take n := by
  unfold cutV
  rw [HT.sIx_nat, HT.sIx_none, List.drop_zero, Nat.sub_zero]
  by_cases h : n ≤ xs.length
  · rw [Nat.min_eq_left h]
  · rw [Nat.min_eq_right (by omega), List.take_of_length_le (Nat.le_refl _), List.take_of_length_le (by omega)]
theorem xe_from {Ps : List VP} {n : Nat} (he : XE X L e G M (Ls Ps) M1) (hl : XE X L lo G M1 (Vl (.int (n : Int))) M2) : XE X L (.Subscript e (.Slice (some lo) none none p2) pos) G M (Ls (Ps.drop n)) M2 :=
  .of (pe_slice sl_list pW (po_some pW) po_none) (hl.ad.trans he.ad) fun σ H H0 s l m Q k => he.then_ s l m fun x H1 H01 g1 s1 l1 m1 ⟨a, vs, ev, ha, hv⟩ => hl.then_ s1 l1 m1 fun y H2 H02 g2 s2 l2 m2 ey => by
    refine ⟨n, ey, a, vs, ev, SqL.of (s2.lst (g2.pure _ _ ha)), fun p hp => ?_⟩
    rw [cut_drop]
    have g : Grow L [] H02 H2 (upd H02 p (.lst (vs.drop n))) (upd H2 p (.lst (vs.drop n))) := .alloc s2 hp
    exact k _ _ _ ((g1.tr (by rw [← he.ad]; exact g2)).tr g.nil) (m2.grow0 g) ⟨p, _, rfl, upd_same, ((hv.mono g2.pure).mono g.pure).drop n⟩
theorem xe_to {Ps : List VP} {n : Nat} (he : XE X L e G M (Ls Ps) M1) (hl : XE X L hi G M1 (Vl (.int (n : Int))) M2) : XE X L (.Subscript e (.Slice none (some hi) none p2) pos) G M (Ls (Ps.take n)) M2 :=
  .of (pe_slice sl_list pW po_none (po_some pW)) (hl.ad.trans he.ad) fun σ H H0 s l m Q k => he.then_ s l m fun x H1 H01 g1 s1 l1 m1 ⟨a, vs, ev, ha, hv⟩ => hl.then_ s1 l1 m1 fun y H2 H02 g2 s2 l2 m2 ey => by
    refine ⟨n, ey, a, vs, ev, SqL.of (s2.lst (g2.pure _ _ ha)), fun p hp => ?_⟩
    rw [cut_take]
    have g : Grow L [] H02 H2 (upd H02 p (.lst (vs.take n))) (upd H2 p (.lst (vs.take n))) := .alloc s2 hp
    exact k _ _ _ ((g1.tr (by rw [← he.ad]; exact g2)).tr g.nil) (m2.grow0 g) ⟨p, _, rfl, upd_same, ((hv.mono g2.pure).mono g.pure).take n⟩
/-- // of ints, the divisor not 0, below 2 ^ 9000 -/
theorem op_fdivNW : OpR X (binaryOp .FloorDiv) (rI (fun _ j => j ≠ 0 ∧ j.natAbs.log2 < 9000) fun i j => .int (i.fdiv j)) := opI fun _ _ _ _ _ _ _ hc q => floordiv_int hc.1 q (.inl (PyProof.noPylong_of_log2 hc.2))
theorem log2_le_of {n m : Nat} (h : n ≤ 2 ^ m) : n.log2 ≤ m := by
  by_cases h0 : n = 0
  · rw [h0]
    exact Nat.zero_le _
  · have h2 := Nat.log2_self_le h0
    exact (Nat.pow_le_pow_iff_right (a := 2) (by decide)).mp (Nat.le_trans h2 h)
theorem mulOk {i j : Int} {a b : Nat} (ha : i.natAbs ≤ 2 ^ a) (hb : j.natAbs ≤ 2 ^ b) (h : a + b < 1000000) : CMulW i j := by
  have h1 := log2_le_of ha
  have h2 := log2_le_of hb
  unfold CMulW
  omega
theorem rv_neg {i : Int} : RU L (rU fun i => .int (-i)) (Vl (.int i)) (Vl (.int (-i))) := ru_of fun x H H0 s p1 Q k => ⟨i, p1, k _ rfl⟩
end
end Y
/-! text Zb -/
set_option Elab.async false
set_option linter.all false
set_option maxRecDepth 100000
namespace Y
open PySem PySem.Spec PyProof.Rows L2 Mt
/-! ### what stands at the top -/
/-- a def of the top -/
abbrev Row := Mt.Row
structure Dfn (K : PySem.W.Frag) (mg : Str → Option Value) (x : Str) (st : Stmt) (ps : List Str) : Prop where
  ex : ∃ f fd, Fun K x x st f fd ∧ mg x = some (.ref f) ∧ Binds K fd ps []
/-- a def as it is called -/
structure Cal (P : Program) (w : World) (K : PySem.W.Frag) (mg : Str → Option Value) (base : Heap) (k : Nat) (x : Str) (ps : List Str) (sp : Sp) : Prop where
  ex : ∃ f fd, FnOk P w K mg base CX0 k f fd ps sp ∧ mg x = some (.ref f) ∧ PySem.W.keepIn K (.ref f) = true ∧ Binds K fd ps []
structure Bt (mg : Str → Option Value) : Prop where
  zip : mg "zip" = none
  range : mg "range" = none
  len : mg "len" = none
  int : mg "int" = none
  abs : mg "abs" = none
  list : mg "list" = none
  tuple : mg "tuple" = none
  dict : mg "dict" = none
  set : mg "set" = none
  sorted : mg "sorted" = none
  any : mg "any" = none
  all : mg "all" = none
  min : mg "min" = none
  bool : mg "bool" = none
  isinstance : mg "isinstance" = none
  enumerate : mg "enumerate" = none
  reversed : mg "reversed" = none
  str : mg "str" = none
section
variable {P : Program} {w : World} {K : PySem.W.Frag} {mg : Str → Option Value} {base : Heap}
theorem Dfn.cal {x : Str} {st : Stmt} {ps : List Str} {k : Nat} {sp : Sp} (D : Dfn K mg x st ps) (h : ∀ f fd, Fun K x x st f fd → FnOk P w K mg base CX0 k f fd ps sp) : Cal P w K mg base k x ps sp := by
  obtain ⟨f, fd, F, g, b⟩ := D.ex
  exact ⟨f, fd, h f fd F, g, F.kp, b⟩
end
section
variable {X : Cx} {L : List Addr} {e a b c tg iter : Expr} {G G1 G2 : Gam} {M M1 M2 M3 M' Mw Mf : Ml} {P P1 P2 P3 P' : VP} {pos : Pos} {i j : Nat} {x : Str}
theorem xc {α : Type} {pre : α → Prop} {As : α → List VP} {Mi Mo : α → Ml} {R : α → VP} {k : Nat} {ps : List Str} {es : List Expr} {p : Pos} (C : Cal X.prog X.w X.K X.mg X.base k x ps (spG pre As Mi R Mo)) (hr : Room k X.A) (y : α) (ha : XA X [] (e :: es) G M (As y) (Mi y ++ Mf)) (hpre : pre y) (had : ads (Mo y) = ads (Mi y) := by rfl) (hg : Gl X x := by rfl)
    (hdb : (x == ("__debug__" : Str)) = false := by decide) (he : starEach (e :: es) X.env = (false, eval e X.env) :: starEach es X.env := by rfl) (hpl : (backTo pos (starEach es X.env)).any (·.1) = false := by rfl) :
    XE X [] (.Call (.Name x p) (e :: es) [] pos) G M (R y) (Mo y ++ Mf) := by
  obtain ⟨f, fd, F, g, kp, bn⟩ := C.ex
  exact xe_call F hr hg g kp bn y ha hpre had hdb he hpl
/-- without cells -/
theorem xp {α : Type} {pre : α → Prop} {As : α → List VP} {R : α → VP} {k : Nat} {ps : List Str} {es : List Expr} {p : Pos} (C : Cal X.prog X.w X.K X.mg X.base k x ps (spP pre As R)) (hr : Room k X.A) (y : α) (ha : XA X [] (e :: es) G M (As y) M1) (hpre : pre y) (hg : Gl X x := by rfl)
    (hdb : (x == ("__debug__" : Str)) = false := by decide) (he : starEach (e :: es) X.env = (false, eval e X.env) :: starEach es X.env := by rfl) (hpl : (backTo pos (starEach es X.env)).any (·.1) = false := by rfl) :
    XE X [] (.Call (.Name x p) (e :: es) [] pos) G M (R y) M1 := xc (Mf := M1) C hr y ha hpre rfl hg hdb he hpl
end
theorem xpw {X : Cx} {e : Expr} {G : Gam} {M M1 : Ml} {P' : VP} {pos : Pos} {x : Str} {α : Type} {pre : α → Prop} {As : α → List VP} {R : α → VP} {k : Nat} {ps : List Str} {es : List Expr} {p : Pos} (C : Cal X.prog X.w X.K X.mg X.base k x ps (spP pre As R)) (hr : Room k X.A) (y : α) (ha : XA X [] (e :: es) G M (As y) M1) (hpre : pre y) (hw : ∀ v H, (R y).p v H → P'.p v H) (hg : Gl X x := by rfl)
    (hdb : (x == ("__debug__" : Str)) = false := by decide) (he : starEach (e :: es) X.env = (false, eval e X.env) :: starEach es X.env := by rfl) (hpl : (backTo pos (starEach es X.env)).any (·.1) = false := by rfl) :
    XE X [] (.Call (.Name x p) (e :: es) [] pos) G M P' M1 := (xp C hr y ha hpre hg hdb he hpl).w hw
/-! ### unit -/
theorem il_map (xs : List Int) : IL xs = Ls (xs.map fun i => Vl (.int i)) := rfl
theorem il_at {r : Row} {k : Nat} (h : k < r.length) : (r.map fun i => Vl (.int i))[k]? = some (Vl (.int (at_ r k))) := by
  rw [List.getElem?_map, List.getElem?_eq_getElem h]
  unfold at_
  rw [List.getD_eq_getElem?_getD, List.getElem?_eq_getElem h]
  rfl
abbrev sUn : Stmt := top 14
theorem scUn : FnScope ["size", "place", "index"] ["size", "place"] (defScope sUn) := ⟨rfl, rfl, rfl, by decide +kernel, rfl, by decide +kernel, by decide +kernel⟩
section
variable {P : Program} {w : World} {K : PySem.W.Frag} {mg : Str → Option Value} {base : Heap}
abbrev spUn : Sp := spP (α := Nat × Nat) (fun q => q.1 < sizeLine) (fun q => [Vl (.int (q.1 : Int)), Vl (.int (q.2 : Int))]) (fun q => IL (Mt.unit q.1 q.2))
theorem line62 {n : Nat} (h : n < sizeLine) : n < 2 ^ 62 := Nat.lt_of_lt_of_le h (by rw [sizeLine_eq]; decide)
theorem c_Un (D : Dfn K mg "unit" sUn ["size", "place"]) (T : Bt mg) : Cal P w K mg base 1 "unit" ["size", "place"] spUn := D.cal fun f fd F => by
  refine fn_ok F scUn (fun _ _ => rfl) ?_
  rintro ⟨m, i⟩ hl cdv A outer s H E B D hB hr hrt hnx
  have hl : m < sizeLine := hl
  refine xs_done hrt (XLc.ls (xlcM (own := [("index", 2)]) [2] (fun k : Nat => [some (Vl (.int (m : Int))), some (Vl (.int (i : Int))), some (Vl (.int (k : Int)))]) (List.range m) (fun k => Vl (.int (k : Nat))) (fun k => Vl (.int (if ((k : Int) == (i : Int)) = true then 1 else 0))) rfl scUn.nd ?_ (blkOk_by (N := ["size", "place", "index"]) (sc := defScope sUn) (by decide +kernel)) (fun _ _ h => h) ?_ (by decide) ?_ ?_)) ?_
  · exact xi_range (by rfl) T.range (v 0) (line62 hl)
  · rw [List.length_range]
    exact hl
  · intro k hk s H C cl fp
    exact xg_name (i := 2) scUn.nd rfl (.inl rfl)
  · intro k hk s H C cl fp
    exact xe_callTy call_int1 rc_intB (by rfl) T.int PyProof.Rows.boot_int (xa_cons (xe_cmp op_eq rv_eqI (v 2) (v 1) (nomark _)) xa_nil)
  · intro v H h
    have e : (List.range m).map (fun k : Nat => Vl (.int (if ((k : Int) == (i : Int)) = true then 1 else 0))) = (Mt.unit m i).map fun i => Vl (.int i) := by
      unfold Mt.unit
      rw [List.map_map]
      refine List.map_congr_left fun k _ => ?_
      have : ((k : Int) == (i : Int)) = decide (k = i) := by
        rw [Bool.eq_iff_iff]
        simp only [beq_iff_eq, decide_eq_true_eq]
        omega
      simp only [this, decide_eq_true_eq]
      rfl
    rw [e] at h
    exact h
end
/-! ### first_place -/
theorem fp_some {w i : Nat} {r : Row} (hi : i < w) (h : at_ r i ≠ 0) (hz : ∀ j, j < i → at_ r j = 0) : fp w r = some i := by
  unfold fp
  rw [List.find?_range_eq_some]
  exact ⟨by simpa using h, List.mem_range.mpr hi, fun j hj => by simp [hz j hj]⟩
theorem fp_none {w : Nat} {r : Row} (hz : ∀ j, j < w → at_ r j = 0) : fp w r = none := by
  unfold fp
  rw [List.find?_eq_none]
  intro j hj
  simp [hz j (List.mem_range.mp hj)]
def fpV (w : Nat) (r : Row) : V := match fp w r with
  | some c => .int (c : Int)
  | none => .non
abbrev sFP : Stmt := top 15
theorem scFP : FnScope ["row", "width", "place"] ["row", "width"] (defScope sFP) := ⟨rfl, rfl, rfl, by decide +kernel, rfl, by decide +kernel, by decide +kernel⟩
section
variable {P : Program} {w : World} {K : PySem.W.Frag} {mg : Str → Option Value} {base : Heap}
abbrev spFP : Sp := spP (α := Row × Nat) (fun q => q.2 ≤ q.1.length ∧ q.2 < sizeLine) (fun q => [IL q.1, Vl (.int (q.2 : Int))]) (fun q => Vl (fpV q.2 q.1))
theorem c_FP (D : Dfn K mg "first_place" sFP ["row", "width"]) (T : Bt mg) : Cal P w K mg base 1 "first_place" ["row", "width"] spFP := D.cal fun f fd F => by
  refine fn_ok F scFP (fun _ _ => rfl) ?_
  rintro ⟨r, w⟩ ⟨hw, hl⟩ cdv A outer s H E B D hB hr hrt hnx
  have hw : w ≤ r.length := hw
  have hl : w < sizeLine := hl
  refine xs_for (ι := Unit) PassesOwn.never rfl (xi_range (by rfl) T.range (v 1) (line62 hl)) (fun i _ => ∀ j, j < i → at_ r j = 0) (fun _ _ => [some (IL r), some (Vl (.int (w : Int))), none]) (fun _ _ => []) ⟨(), (fun j hj => by omega), (fun _ _ h => h), rfl, fun _ _ h => h⟩ (fun _ _ _ _ _ _ => MO.nil) ?_ ?_
  · intro i _ Q B' bl hQ hz
    have hi : i < w := by
      have := (List.getElem?_eq_some_iff.mp hQ).1
      rw [rngP_len] at this
      exact this
    rw [rngP_at hi] at hQ
    cases hQ
    refine ⟨[2], _, xg_name (i := 2) scFP.nd rfl (.inl rfl), ?_⟩
    refine xs_when (xt_cmp op_ne (rv_neI (i := at_ r i) (j := 0)) (xe_ix ix_list (fun _ _ => rfl) (rv_ixL (il_at (by omega))) (v 0) (v 2)) xe_int (nomark _)) (fun ht => ?_) (fun ht => ?_)
    · refine xs_ret (v 2) fun v H h => hrt v H ((h.lift bl).imp (fun v H e => ?_) fun _ _ h => h)
      show v = fpV w r
      unfold fpV
      rw [fp_some hi (by simpa using ht.symm) hz]
      exact e
    · refine xs_nil fun σ H h => ⟨(), fun j hj => ?_, h.unset 2⟩
      rcases Nat.lt_succ_iff_lt_or_eq.mp hj with q | q
      · exact hz j q
      · rw [q]
        simpa using ht.symm
  · intro _ hz
    rw [rngP_len] at hz
    refine xs_done hrt xe_non fun v H e => ?_
    show v = fpV w r
    unfold fpV
    rw [fp_none hz]
    exact e
end
/-! ### least_row -/
abbrev sLR : Stmt := top 16
theorem scLR : FnScope ["rows", "place", "found", "row"] ["rows", "place"] (defScope sLR) := ⟨rfl, rfl, rfl, by decide +kernel, rfl, by decide +kernel, by decide +kernel⟩
theorem ill_at {xs : List Row} {i : Nat} {r : Row} (h : xs[i]? = some r) : (xs.map IL)[i]? = some (IL r) := by
  rw [List.getElem?_map, h]
  rfl
section
variable {P : Program} {w : World} {K : PySem.W.Frag} {mg : Str → Option Value} {base : Heap}
abbrev spLR : Sp := spP (α := List Row × Nat) (fun q => q.1 ≠ [] ∧ ∀ r ∈ q.1, q.2 < r.length) (fun q => [ILL q.1, Vl (.int (q.2 : Int))]) (fun q => ExP (fun s => s ∈ q.1 ∧ ∀ r ∈ q.1, (at_ s q.2).natAbs ≤ (at_ r q.2).natAbs) IL)
theorem c_LR (D : Dfn K mg "least_row" sLR ["rows", "place"]) (T : Bt mg) : Cal P w K mg base 1 "least_row" ["rows", "place"] spLR := D.cal fun f fd F => by
  refine fn_ok F scLR (fun _ _ => rfl) ?_
  rintro ⟨rows, k⟩ ⟨hne, hk⟩ cdv A outer s H E B D hB hr hrt hnx
  have hk : ∀ r ∈ rows, k < r.length := hk
  obtain ⟨r0, hr0⟩ : ∃ r0, rows[0]? = some r0 := by
    cases rows with
    | nil => exact absurd rfl hne
    | cons a l => exact ⟨a, rfl⟩
  refine xs_set (i := 2) (xe_ix ix_list (fun _ _ => rfl) (rv_ixL (n := 0) (ill_at hr0)) (v 0) xe_int) scLR.nd rfl (.inl rfl) ?_
  refine xs_for (ι := Row) PassesOwn.never rfl (xi_list (v 0)) (fun i s => s ∈ rows ∧ ∀ r ∈ rows.take i, (at_ s k).natAbs ≤ (at_ r k).natAbs) (fun _ s => [some (ILL rows), some (Vl (.int (k : Int))), some (IL s), none]) (fun _ _ => []) ⟨r0, ⟨List.mem_of_getElem? hr0, fun r h => by simp at h⟩, (fun _ _ h => h), rfl, fun _ _ h => h⟩ (fun _ _ _ _ _ _ => MO.nil) ?_ ?_
  · rintro i s Q B' bl hQ ⟨hs, hm⟩
    rw [List.getElem?_map] at hQ
    cases e : rows[i]? with
    | none =>
      rw [e] at hQ
      cases hQ
    | some r =>
      rw [e] at hQ
      cases hQ
      have hrm : r ∈ rows := List.mem_of_getElem? e
      have et : rows.take (i + 1) = rows.take i ++ [r] := by
        rw [List.take_add_one, e]
        rfl
      refine ⟨[3], _, xg_name (i := 3) scLR.nd rfl (.inl rfl), ?_⟩
      refine xs_when (xt_cmp op_lt (rv_i0 (i := ((at_ r k).natAbs : Int)) (j := ((at_ s k).natAbs : Int))) (xe_callB call_abs rc_abs (by rfl) T.abs PyProof.Rows.boot_abs (xa_cons (xe_ix ix_list (fun _ _ => rfl) (rv_ixL (il_at (hk r hrm))) (v 3) (v 1)) xa_nil)) (xe_callB call_abs rc_abs (by rfl) T.abs PyProof.Rows.boot_abs (xa_cons (xe_ix ix_list (fun _ _ => rfl) (rv_ixL (il_at (hk s hs))) (v 2) (v 1)) xa_nil)) (nomark _)) (fun ht => ?_) (fun ht => ?_)
      · have ht : ((at_ r k).natAbs : Int) < ((at_ s k).natAbs : Int) := of_decide_eq_true ht.symm
        refine xs_set (i := 2) (v 3) scLR.nd rfl (.inl rfl) ?_
        refine xs_nil2 (fun σ H h => ⟨r, ⟨hrm, fun q hq => ?_⟩, h.unset 3⟩)
        rw [et] at hq
        rcases List.mem_append.mp hq with z | z
        · have := hm q z
          omega
        · rw [List.mem_singleton.mp z]
          exact Nat.le_refl _
      · have ht : ¬ ((at_ r k).natAbs : Int) < ((at_ s k).natAbs : Int) := of_decide_eq_false ht.symm
        refine xs_nil fun σ H h => ⟨s, ⟨hs, fun q hq => ?_⟩, h.unset 3⟩
        rw [et] at hq
        rcases List.mem_append.mp hq with z | z
        · exact hm q z
        · rw [List.mem_singleton.mp z]
          omega
  · rintro s ⟨hs, hm⟩
    rw [List.length_map, List.take_length] at hm
    exact xs_done hrt (v 2) fun v H h => ⟨s, ⟨hs, hm⟩, h⟩
end
end Y
/-! text Zc -/
set_option Elab.async false
set_option linter.all false
set_option maxRecDepth 100000
namespace Y
open PySem PySem.Spec PyProof.Rows L2 Mt
theorem ru {k : Nat} {A : Around} (r : Room k A) : A.units + 64 < cLine := by
  have := r.un
  omega
theorem bt_any : bootBuiltins "any" = some (.builtin "any") := by decide +kernel
theorem bt_all : bootBuiltins "all" = some (.builtin "all") := by decide +kernel
theorem bt_len : bootBuiltins "len" = some (.builtin "len") := by decide +kernel
/-! ### plus_times -/
abbrev sPT : Stmt := top 13
theorem scPT : FnScope ["one", "factor", "other", "a", "b"] ["one", "factor", "other"] (defScope sPT) := ⟨rfl, rfl, rfl, by decide +kernel, rfl, by decide +kernel, by decide +kernel⟩
theorem zip_pairs {α β : Type} (R : α → VP) (S : β → VP) (xs : List α) (ys : List β) : zipP (xs.map R) (ys.map S) = (xs.zip ys).map fun q => Tp [R q.1, S q.2] := by
  unfold zipP
  rw [List.zipWith_map, List.zip, List.map_zipWith]
theorem zipT_pairs {α β : Type} (R : α → VP) (S : β → VP) (xs : List α) (ys : List β) : zipP (xs.map R) (ys.map S) = (xs.zip ys).map fun q => Tp [R q.1, S q.2] := zip_pairs R S xs ys
section
variable {P : Program} {w : World} {K : PySem.W.Frag} {mg : Str → Option Value} {base : Heap}
abbrev spPT : Sp := spP (α := Row × Int × Row) (fun q => q.1.length < sizeLine ∧ ∀ b ∈ q.2.2, CMulW q.2.1 b) (fun q => [IL q.1, Vl (.int q.2.1), IL q.2.2]) (fun q => IL (Mt.plusT q.1 q.2.1 q.2.2))
theorem c_PT (D : Dfn K mg "plus_times" sPT ["one", "factor", "other"]) (T : Bt mg) : Cal P w K mg base 1 "plus_times" ["one", "factor", "other"] spPT := D.cal fun f fd F => by
  refine fn_ok F scPT (fun _ _ => rfl) ?_
  rintro ⟨xs, k, ys⟩ ⟨hl, hm⟩ cdv A outer s H E B D hB hr hrt hnx
  refine xs_done hrt (XLc.ls (xlcM (own := [("a", 3), ("b", 4)]) [3, 4] (fun q => [some (IL xs), some (Vl (.int k)), some (IL ys), some (Vl (.int q.1)), some (Vl (.int q.2))]) (xs.zip ys) (fun q => Tp [Vl (.int q.1), Vl (.int q.2)]) (fun q => Vl (.int (q.1 + k * q.2))) rfl scPT.nd ?_ (blkOk_by (N := ["one", "factor", "other", "a", "b"]) (sc := defScope sPT) (by decide +kernel)) (fun _ _ h => h) ?_ (by decide) ?_ ?_)) ?_
  · rw [← zip_pairs (fun i => Vl (.int i)) (fun i => Vl (.int i))]
    exact xi_zip (by rfl) T.zip (v 0) (v 2)
  · rw [List.length_zip]
    have hl : xs.length < sizeLine := hl
    omega
  · intro q hq s H C cl fp
    exact xg_tup rfl (xgs_cons (xg_name (i := 3) scPT.nd rfl (.inl rfl)) (xgs_cons (xg_name (i := 4) scPT.nd rfl (.inl rfl)) xgs_nil))
  · intro q hq s H C cl fp
    exact xe_op op_add rv_i0 (v 3) (xe_op op_mulW (rv_i (hm _ (List.of_mem_zip hq).2)) (v 1) (v 4))
  · intro v H h
    have e : (xs.zip ys).map (fun q => Vl (.int (q.1 + k * q.2))) = (Mt.plusT xs k ys).map fun i => Vl (.int i) := by
      unfold Mt.plusT
      rw [List.zip, List.map_zipWith, List.map_zipWith]
    rw [e] at h
    exact h
end
/-! ### cleared -/
abbrev sCL : Stmt := top 17
theorem scCL : FnScope ["rows", "place", "active", "others", "pivot", "rest", "doubled", "changed", "row", "entry"] ["rows", "place"] (defScope sCL) := ⟨rfl, rfl, rfl, by decide +kernel, rfl, by decide +kernel, by decide +kernel⟩
theorem sl2 {α : Type} {a b : α} : [a, b].length ≤ sizeLine := by
  rw [sizeLine_eq]
  exact (by decide : 2 ≤ 16777216)
/-- a row or None -/
def oIL : Option Row → VP
  | none => Vl .non
  | some r => IL r
structure PreCL (W k N : Nat) (R0 : List Row) : Prop where
  len : ∀ r ∈ R0, r.length = W
  bd : ∀ r ∈ R0, Bd (2 ^ N) r
  num : R0.length ≤ 6
  w : W ≤ 12
  k : k < W
  n : N ≤ 5828
theorem line12 {n : Nat} (h : n ≤ 12) : n < sizeLine := Nat.lt_of_le_of_lt h (by rw [sizeLine_eq]; decide)
theorem ils_app (A B : List Row) : A.map IL ++ B.map IL = (A ++ B).map IL := (List.map_append ..).symm
theorem mem_at {r : Row} {x : Int} (h : x ∈ r) : ∃ j, at_ r j = x := by
  obtain ⟨j, hj, e⟩ := List.mem_iff_getElem.mp h
  refine ⟨j, ?_⟩
  unfold at_
  rw [List.getD_eq_getElem?_getD, List.getElem?_eq_getElem hj]
  exact e
theorem bd_mem {C : Nat} {r : Row} (h : Bd C r) {x : Int} (hx : x ∈ r) : x.natAbs ≤ C := by
  obtain ⟨j, e⟩ := mem_at hx
  rw [← e]
  exact h j
theorem fdiv_le {a b : Int} (hb : b ≠ 0) : (a.fdiv b).natAbs ≤ a.natAbs + 1 := by
  have h1 := fdiv_any (a := a) hb
  have h2 : a.natAbs / b.natAbs ≤ a.natAbs := Nat.div_le_self ..
  omega
section
variable {P : Program} {w : World} {K : PySem.W.Frag} {mg : Str → Option Value} {base : Heap}
abbrev spCL : Sp := spP (α := List Row × Nat × Nat × Nat) (fun q => PreCL q.2.2.1 q.2.1 q.2.2.2 q.1) (fun q => [ILL q.1, Vl (.int (q.2.1 : Int))]) (fun q => ExP (fun y : Option Row × List Row => Clr q.2.2.1 q.2.1 (2 ^ (3 * q.2.2.2 + 8)) (2 ^ q.2.2.2) q.1 y.1 y.2) (fun y => Tp [oIL y.1, ILL y.2]))
theorem c_CL (D : Dfn K mg "cleared" sCL ["rows", "place"]) (T : Bt mg) (cLR : Cal P w K mg base 1 "least_row" ["rows", "place"] spLR) (cPT : Cal P w K mg base 1 "plus_times" ["one", "factor", "other"] spPT) : Cal P w K mg base 2 "cleared" ["rows", "place"] spCL := D.cal fun f fd F => by
  refine fn_ok F scCL (fun _ _ => rfl) ?_
  rintro ⟨R0, k, W, N⟩ h cdv A outer s H E B D hB hr hrt hnx
  have h : PreCL W k N R0 := h
  have l1 : ∀ {A : List Row}, A.length ≤ 6 → A.length < sizeLine := fun q => line12 (by omega)
  refine xs_lc (i := 2) (xlcF (own := [("row", 8)]) [8] (fun r => [some (ILL R0), some (Vl (.int (k : Int))), none, none, none, none, none, none, some (IL r), none]) R0 IL IL (fun r => at_ r k != 0) rfl scCL.nd (xi_list (v 0)) (blkOk_by (N := ["rows", "place", "active", "others", "pivot", "rest", "doubled", "changed", "row", "entry"]) (sc := defScope sCL) (by decide +kernel)) (fun _ _ h => h) (l1 h.num) (by decide)
    (fun r hr s H C cl fp => xg_name (i := 8) scCL.nd rfl (.inl rfl)) (fun r hr s H C cl fp => xts_one (xt_cmp op_ne rv_neI (xe_ix ix_list (fun _ _ => rfl) (rv_ixL (il_at (by rw [h.len r hr]; exact h.k))) (v 8) (v 1)) xe_int (nomark _))) (fun r hr _ s H C cl fp => v 8)) rfl rfl ?_ (sw_true rfl rfl rfl (by decide +kernel))
  refine xs_lc (i := 3) (xlcF (own := [("row", 8)]) [8] (fun r => [some (ILL R0), some (Vl (.int (k : Int))), some (ILL (R0.filter fun r => at_ r k != 0)), none, none, none, none, none, some (IL r), none]) R0 IL IL (fun r => at_ r k == 0) rfl scCL.nd (xi_list (v 0)) (blkOk_by (N := ["rows", "place", "active", "others", "pivot", "rest", "doubled", "changed", "row", "entry"]) (sc := defScope sCL) (by decide +kernel)) (fun _ _ h => h) (l1 h.num) (by decide)
    (fun r hr s H C cl fp => xg_name (i := 8) scCL.nd rfl (.inl rfl)) (fun r hr s H C cl fp => xts_one (xt_cmp op_eq rv_eqI (xe_ix ix_list (fun _ _ => rfl) (rv_ixL (il_at (by rw [h.len r hr]; exact h.k))) (v 8) (v 1)) xe_int (nomark _))) (fun r hr _ s H C cl fp => v 8)) rfl rfl ?_ (sw_true rfl rfl rfl (by decide +kernel))
  refine xs_while (ι := List Row × List Row) PassesOwn.never (fun y => CI W k (2 ^ (3 * N + 8)) (2 ^ N) R0 y.1 y.2) (fun y => mes k y.1) (fun y => [some (ILL R0), some (Vl (.int (k : Int))), some (ILL y.1), some (ILL y.2), none, none, none, none, none, none]) (fun _ => []) ⟨(_, _), CI.init h.len h.bd h.num, (fun _ _ h => h), rfl, fun _ _ h => h⟩ ?_
  rintro ⟨A, O⟩ hI
  have hI : CI W k (2 ^ (3 * N + 8)) (2 ^ N) R0 A O := hI
  have hnum := hI.num
  rw [List.length_append] at hnum
  have hn6 := h.num
  have hlA : ∀ r ∈ A, r.length = W := fun r hr => hI.len r (List.mem_append_left _ hr)
  refine ⟨_, _, xt_cmp op_gt (rv_i0 (i := ((A.map IL).length : Int)) (j := 1)) (xe_callB call_len_seq rc_lenL (by rfl) T.len bt_len (xa_cons (v 2) xa_nil)) xe_int (nomark _), fun ht => ?_, fun ht => ?_⟩
  · have h1 : 1 < A.length := by
      have := of_decide_eq_true ht.symm
      rw [List.length_map] at this
      omega
    refine xs_set (i := 4) (xp cLR hr (A, k) (xa_cons (v 2) (xa_cons (v 1) xa_nil)) ⟨fun e => by simp [show A = [] from e] at h1, fun r hr => by rw [hlA r hr]; exact h.k⟩) scCL.nd rfl (.inr rfl) ?_
    refine xs_open (i := 4) rfl fun s ⟨hs, hm⟩ => ?_
    have hs : s ∈ A := hs
    have hm : ∀ r ∈ A, (at_ s k).natAbs ≤ (at_ r k).natAbs := hm
    have hs0 := hI.act s hs
    obtain ⟨st, lt⟩ := hI.step hs hm h1
    have lrd := (act_perm hs).length_eq
    rw [List.length_cons] at lrd
    have lrd' := lrd
    rw [List.length_append] at lrd'
    refine xs_lc (i := 5) (xlcF (own := [("row", 8)]) [8] (fun r => [some (ILL R0), some (Vl (.int (k : Int))), some (ILL A), some (ILL O), some (IL s), none, none, none, some (IL r), none]) A IL IL (fun r => r != s) rfl scCL.nd (xi_list (v 2)) (blkOk_by (N := ["rows", "place", "active", "others", "pivot", "rest", "doubled", "changed", "row", "entry"]) (sc := defScope sCL) (by decide +kernel)) (fun _ _ h => h) (l1 (by omega)) (by decide)
      (fun r hr s H C cl fp => xg_name (i := 8) scCL.nd rfl (.inl rfl)) (fun r _ s H C cl fp => xts_one (xt_cmp (op_neD (ru hr)) rv_neIL (v 8) (v 4) (nomark _))) (fun r hr _ s H C cl fp => v 8)) rfl rfl ?_ (sw_true rfl rfl rfl (by decide +kernel))
    refine xs_set (i := 6) (P := ILL (doubOf s A)) ((xe_from (n := 1) (XLc.ls (xlcF (own := [("row", 8)]) [8] (fun r => [some (ILL R0), some (Vl (.int (k : Int))), some (ILL A), some (ILL O), some (IL s), some (ILL (restOf s A)), none, none, some (IL r), none]) A IL (fun _ => IL s) (fun r => r == s) rfl scCL.nd (xi_list (v 2)) (blkOk_by (N := ["rows", "place", "active", "others", "pivot", "rest", "doubled", "changed", "row", "entry"]) (sc := defScope sCL) (by decide +kernel)) (fun _ _ h => h) (l1 (by omega)) (by decide)
      (fun r hr s H C cl fp => xg_name (i := 8) scCL.nd rfl (.inl rfl)) (fun r _ s H C cl fp => xts_one (xt_cmp (op_eqD (ru hr)) rv_eqIL (v 8) (v 4) (nomark _))) (fun r hr _ s H C cl fp => v 4))) xe_int).w fun v H p => ?_) scCL.nd rfl (.inl rfl) ?_
    · unfold doubOf
      unfold ILL
      rw [List.map_drop, List.map_map]
      exact p
    refine xs_lc (i := 7) (M' := []) (Ps := (chgOf k s A).map IL) ?_ rfl rfl ?_ (sw_true rfl rfl rfl (by decide +kernel))
    · unfold chgOf
      rw [List.map_map]
      refine xlcM (own := [("row", 8)]) [8] (fun r => [some (ILL R0), some (Vl (.int (k : Int))), some (ILL A), some (ILL O), some (IL s), some (ILL (restOf s A)), some (ILL (doubOf s A)), none, some (IL r), none]) (restOf s A ++ doubOf s A) IL (fun r => IL (red k s r)) rfl scCL.nd ?_ (blkOk_by (N := ["rows", "place", "active", "others", "pivot", "rest", "doubled", "changed", "row", "entry"]) (sc := defScope sCL) (by decide +kernel)) (fun _ _ h => h) (l1 (by omega)) (by decide)
        (fun r hr s H C cl fp => xg_name (i := 8) scCL.nd rfl (.inl rfl)) (fun r hr' s1 H C cl fp => ?_)
      · rw [← ils_app, show (doubOf s A).map IL = (doubOf s A).map IL ++ [] from (List.append_nil _).symm]
        refine xi_list (xe_lst (xa_starL (v 5) (xa_starL (v 6) xa_nil)) ?_)
        rw [List.append_nil, List.length_append, List.length_map, List.length_map]
        rw [sizeLine_eq]
        omega
      · have hrA := rest_mem hs hr'
        have b1 : (at_ r k).natAbs ≤ 2 ^ N := hI.top r (List.mem_append_left _ hrA)
        have b2 : Bd (2 ^ (3 * N + 8)) s := hI.siz.bd s (List.mem_append_left _ hs)
        have b3 : (at_ s k).natAbs ≤ 2 ^ N := hI.top s (List.mem_append_left _ hs)
        have hN := h.n
        have q0 : (at_ r k).natAbs + 1 ≤ 2 ^ (N + 1) := by
          have : 1 ≤ 2 ^ N := Nat.one_le_two_pow
          rw [Nat.pow_succ]
          omega
        refine XE.w (xp cPT hr (r, -((at_ r k).fdiv (at_ s k)), s) (xa_cons (v 8) (xa_cons (xe_un un_neg rv_neg (xe_op op_fdivNW (rv_i (i := at_ r k) (j := at_ s k) ⟨hs0, Nat.lt_of_le_of_lt (log2_le_of b3) (by omega)⟩) (xe_ix ix_list (fun _ _ => rfl) (rv_ixL (il_at (by rw [hlA r hrA]; exact h.k))) (v 8) (v 1)) (xe_ix ix_list (fun _ _ => rfl) (rv_ixL (il_at (by rw [hlA s hs]; exact h.k))) (v 4) (v 1)))) (xa_cons (v 4) xa_nil))) ⟨?_, fun b hb => ?_⟩) (fun _ _ p => p)
        · show r.length < sizeLine
          rw [hlA r hrA]
          exact line12 h.w
        · refine mulOk (a := N + 1) (b := 3 * N + 8) ?_ (bd_mem b2 hb) (by omega)
          show (-((at_ r k).fdiv (at_ s k))).natAbs ≤ _
          rw [Int.natAbs_neg]
          exact Nat.le_trans (fdiv_le hs0) q0
    have lch : (chgOf k s A).length < A.length := by
      unfold chgOf
      rw [List.length_map]
      omega
    have hlC : ∀ r ∈ chgOf k s A, r.length = W := fun r hr => by
      unfold chgOf at hr
      obtain ⟨t, ht, rfl⟩ := List.mem_map.mp hr
      rw [len_red (by rw [hlA s hs, hlA t (rest_mem hs ht)]), hlA s hs]
    refine xs_set (i := 3) (P := ILL (O ++ (chgOf k s A).filter fun r => at_ r k == 0)) ((xe_lst (xa_starL (v 3) (xa_starL (XLc.ls (xlcF (own := [("row", 8)]) [8] (fun r => [some (ILL R0), some (Vl (.int (k : Int))), some (ILL A), some (ILL O), some (IL s), some (ILL (restOf s A)), some (ILL (doubOf s A)), some (ILL (chgOf k s A)), some (IL r), none]) (chgOf k s A) IL IL (fun r => at_ r k == 0) rfl scCL.nd (xi_list (v 7)) (blkOk_by (N := ["rows", "place", "active", "others", "pivot", "rest", "doubled", "changed", "row", "entry"]) (sc := defScope sCL) (by decide +kernel)) (fun _ _ h => h) (l1 (by omega)) (by decide)
      (fun r hr s H C cl fp => xg_name (i := 8) scCL.nd rfl (.inl rfl)) (fun r hr s H C cl fp => xts_one (xt_cmp op_eq rv_eqI (xe_ix ix_list (fun _ _ => rfl) (rv_ixL (il_at (by rw [hlC r hr]; exact h.k))) (v 8) (v 1)) xe_int (nomark _))) (fun r hr _ s H C cl fp => v 8))) xa_nil)) ?_).w fun v H p => ?_) scCL.nd rfl (.inl rfl) ?_
    · rw [List.append_nil, List.length_append, List.length_map, List.length_map]
      refine Nat.le_trans (Nat.add_le_add_left (List.length_filter_le ..) _) ?_
      show O.length + _ ≤ _
      rw [sizeLine_eq]
      omega
    · rw [List.append_nil, ils_app] at p
      exact p
    refine xs_set (i := 2) (P := ILL (s :: (chgOf k s A).filter fun r => at_ r k != 0)) ((xe_lst (xa_cons (v 4) (xa_starL (XLc.ls (xlcF (own := [("row", 8)]) [8] (fun r => [some (ILL R0), some (Vl (.int (k : Int))), some (ILL A), some (ILL (O ++ (chgOf k s A).filter fun r => at_ r k == 0)), some (IL s), some (ILL (restOf s A)), some (ILL (doubOf s A)), some (ILL (chgOf k s A)), some (IL r), none]) (chgOf k s A) IL IL (fun r => at_ r k != 0) rfl scCL.nd (xi_list (v 7)) (blkOk_by (N := ["rows", "place", "active", "others", "pivot", "rest", "doubled", "changed", "row", "entry"]) (sc := defScope sCL) (by decide +kernel)) (fun _ _ h => h) (l1 (by omega)) (by decide)
      (fun r hr s H C cl fp => xg_name (i := 8) scCL.nd rfl (.inl rfl)) (fun r hr s H C cl fp => xts_one (xt_cmp op_ne rv_neI (xe_ix ix_list (fun _ _ => rfl) (rv_ixL (il_at (by rw [hlC r hr]; exact h.k))) (v 8) (v 1)) xe_int (nomark _))) (fun r hr _ s H C cl fp => v 8))) xa_nil)) ?_).w fun v H p => ?_) scCL.nd rfl (.inl rfl) ?_
    · rw [List.append_nil, List.length_cons, List.length_map]
      refine Nat.le_trans (Nat.add_le_add_right (List.length_filter_le ..) _) ?_
      rw [sizeLine_eq]
      omega
    · rw [List.append_nil] at p
      exact p
    refine xs_nil fun σ H h => ⟨(_, _), st, lt, ?_⟩
    exact ((((h.unset 4).unset 5).unset 6).unset 7).unset 8
  · have h1 : A.length ≤ 1 := by
      have := of_decide_eq_false ht.symm
      rw [List.length_map] at this
      omega
    match A, h1, hI, hlA with
    | [], _, hI, _ =>
      refine xs_when (xt_cmp (op_eqD (ru hr)) rv_eqILL0 (v 2) (xe_lst xa_nil (Nat.zero_le _)) (nomark _)) (fun _ => ?_) (fun ht => by cases ht)
      exact xs_done hrt (xe_tup (xa_cons xe_non (xa_cons (v 3) xa_nil)) sl2) fun v H p => ⟨(none, O), hI.none, p⟩
    | [p], _, hI, hlA =>
      have hlp := hlA p (.head _)
      refine xs_when (xt_cmp (op_eqD (ru hr)) rv_eqILL0 (v 2) (xe_lst xa_nil (Nat.zero_le _)) (nomark _)) (fun ht => by cases ht) (fun _ => ?_)
      refine xs_set (i := 4) (xe_ix ix_list (fun _ _ => rfl) (rv_ixL (n := 0) (P := IL p) rfl) (v 2) xe_int) scCL.nd rfl (.inr rfl) ?_
      refine xs_done hrt (xe_tup (xa_cons (xe_if (P := IL (if 0 < at_ p k then p else negR p)) (xt_cmp op_gt (rv_i0 (i := at_ p k) (j := 0)) (xe_ix ix_list (fun _ _ => rfl) (rv_ixL (il_at (by rw [hlp]; exact h.k))) (v 4) (v 1)) xe_int (nomark _)) (fun ht => ?_) (fun ht => ?_) rfl) (xa_cons (v 3) xa_nil)) sl2) fun v H p => ⟨(_, O), hI.some, p⟩
      · have ht : 0 < at_ p k := of_decide_eq_true ht.symm
        rw [if_pos ht]
        exact v 4
      · have ht : ¬ 0 < at_ p k := of_decide_eq_false ht.symm
        rw [if_neg ht]
        refine (XLc.ls (xlcM (own := [("entry", 9)]) [9] (fun i => [some (ILL R0), some (Vl (.int (k : Int))), some (ILL [p]), some (ILL O), some (IL p), none, none, none, none, some (Vl (.int i))]) p (fun i => Vl (.int i)) (fun i => Vl (.int (-i))) rfl scCL.nd (xi_list (v 4)) (blkOk_by (N := ["rows", "place", "active", "others", "pivot", "rest", "doubled", "changed", "row", "entry"]) (sc := defScope sCL) (by decide +kernel)) (fun _ _ h => h) (by rw [hlp]; exact line12 h.w) (by decide)
          (fun r hr s H C cl fp => xg_name (i := 9) scCL.nd rfl (.inl rfl)) (fun r hr s H C cl fp => xe_un un_neg rv_neg (v 9)))).w fun v H p => ?_
        unfold IL negR
        rw [List.map_map]
        exact p
    | _ :: _ :: _, h1, _, _ =>
      exact absurd h1 (by simp only [List.length_cons]; omega)
end
end Y
/-! text Zd -/
set_option Elab.async false
set_option linter.all false
set_option maxRecDepth 100000
namespace Y
open PySem PySem.Spec PyProof.Rows L2 Mt
section
variable {X : Cx} {L : List Addr} {e a b c tg iter lo hi : Expr} {G G1 G2 : Gam} {M M1 M2 M3 M' Mw Mf : Ml} {P P1 P2 P3 P' : VP} {pos p2 : Pos} {i j : Nat} {x y z : Str} {B : Bs} {D : Ends} {rest : List Stmt} {K : PySem.W.Frag}
/-- a choice within a value -/
theorem rv_exl {α : Type} {f : α → Prop} {Q R : α → VP} {r : R2} (h : ∀ x, f x → RV L r (Q x) P2 (R x)) : RV L r (ExP f Q) P2 (ExP f R) := fun x y H H0 s ⟨u, fu, p1⟩ p2 Q k => h u fu x y H H0 s p1 p2 Q fun z H' H0' g pz => k z H' H0' g ⟨u, fu, pz⟩
/-- target = a choice -/
theorem xs_asgX {α : Type} {f : α → Prop} {Q : α → VP} {js : List Nat} (he : XE X L e G M (ExP f Q) M1) (hg : ∀ u, f u → ∃ G1, XG1 X L tg js (Q u) G G1 ∧ XS X L rest B G1 M1 D) (hs : swapsWithSole [tg] e pos.line X.env = pure false := by rfl) (hw : swappedStores [tg] e X.env = pure none := by rfl)
    (h1 : (assignEach [tg] X.env).map (·.2) = [assign tg X.env] := by rfl) : XS X L (.Assign [tg] e pos :: rest) B G M D :=
  xs_of (ps_asg pW pWg hs hw h1) fun σ H ⟨H0, g, l, m, f⟩ => he.then_ g.sub l m fun v H1 H01 g1 s1 l1 m1 ⟨u, fu, p1⟩ => by
    obtain ⟨G1, h2, h3⟩ := hg u fu
    exact h2.run v σ H1 H01 s1 l1 p1 _ fun σ' l' _ _ => h3.run σ' H1 ⟨H01, g.trans g1 f, l', m1, by rw [he.ad]; exact f⟩
end
end Y
/-! text Ze -/
set_option Elab.async false
set_option linter.all false
set_option maxRecDepth 100000
namespace Y
open PySem PySem.Spec PyProof.Rows L2 Mt
theorem tri_take {W w : Nat} {T : List Row} (h : Tri W w T) (n : Nat) : Tri W w (T.take n) := ⟨fun r hr => h.len r (List.mem_of_mem_take hr), fun r hr => h.lead r (List.mem_of_mem_take hr), h.ech.sublist (List.take_sublist n T)⟩
theorem tot_app (A B : List Row) : tot (A ++ B) = tot A + tot B := by simp [tot]
theorem tot_take {T : List Row} {i : Nat} {r : Row} (h : T[i]? = some r) : tot (T.take i) + (bt r + 2) ≤ tot T := by
  have e : T.take (i + 1) = T.take i ++ [r] := by
    rw [List.take_add_one, h]
    rfl
  have e2 := List.take_append_drop (i + 1) T
  have e3 : tot T = tot (T.take (i + 1)) + tot (T.drop (i + 1)) := by rw [← tot_app, e2]
  rw [e, tot_app] at e3
  have : tot [r] = bt r + 2 := by simp [tot]
  omega
theorem redBy_take {w : Nat} {T : List Row} {v r : Row} {i : Nat} (h : T[i]? = some r) : redBy w (T.take (i + 1)) v = red ((fp w r).getD 0) r (redBy w (T.take i) v) := by
  have e : T.take (i + 1) = T.take i ++ [r] := by
    rw [List.take_add_one, h]
    rfl
  unfold redBy
  rw [e, List.foldl_append]
  rfl
theorem ill_get {xs : List Row} {i : Nat} {P : VP} (h : (xs.map IL)[i]? = some P) : ∃ r, xs[i]? = some r ∧ P = IL r := by
  rw [List.getElem?_map] at h
  cases e : xs[i]? with
  | none =>
    rw [e] at h
    cases h
  | some r =>
    rw [e] at h
    cases h
    exact ⟨r, rfl, rfl⟩
/-! ### reduced_by -/
abbrev sRB : Stmt := top 19
theorem scRB : FnScope ["basis", "vector", "width", "found", "row", "place"] ["basis", "vector", "width"] (defScope sRB) := ⟨rfl, rfl, rfl, by decide +kernel, rfl, by decide +kernel, by decide +kernel⟩
structure PreRB (W w f : Nat) (T : List Row) (vec : Row) : Prop where
  tri : Tri W w T
  len : vec.length = W
  bd : Bd (2 ^ f) vec
  n : f + tot T < 1000000
  cap : W ≤ 12
  ww : w ≤ W
section
variable {P : Program} {w : World} {K : PySem.W.Frag} {mg : Str → Option Value} {base : Heap}
abbrev spRB : Sp := spP (α := List Row × Row × Nat × Nat × Nat) (fun q => PreRB q.2.2.2.1 q.2.2.1 q.2.2.2.2 q.1 q.2.1) (fun q => [ILL q.1, IL q.2.1, Vl (.int (q.2.2.1 : Int))]) (fun q => IL (redBy q.2.2.1 q.1 q.2.1))
theorem c_RB (D : Dfn K mg "reduced_by" sRB ["basis", "vector", "width"]) (T : Bt mg) (cFP : Cal P w K mg base 1 "first_place" ["row", "width"] spFP) (cPT : Cal P w K mg base 1 "plus_times" ["one", "factor", "other"] spPT) : Cal P w K mg base 2 "reduced_by" ["basis", "vector", "width"] spRB := D.cal fun f fd F => by
  refine fn_ok F scRB (fun _ _ => rfl) ?_
  rintro ⟨T, vec, w, W, f⟩ h cdv A outer s H E B D hB hr hrt hnx
  have h : PreRB W w f T vec := h
  refine xs_set (i := 3) (v 1) scRB.nd rfl (.inl rfl) ?_
  refine xs_for (ι := Unit) PassesOwn.never rfl (xi_list (v 0)) (fun i _ => True) (fun i _ => [some (ILL T), some (IL vec), some (Vl (.int (w : Int))), some (IL (redBy w (T.take i) vec)), none, none]) (fun _ _ => []) ⟨(), trivial, (fun _ _ h => h), rfl, fun _ _ h => h⟩ (fun _ _ _ _ _ _ => MO.nil) ?_ ?_
  · rintro i - Q B' bl hQ -
    obtain ⟨r, hir, rfl⟩ := ill_get hQ
    have hrT := List.mem_of_getElem? hir
    have hrl := h.tri.len r hrT
    obtain ⟨c, hc, hL, hp⟩ := h.tri.lead r hrT
    obtain ⟨u1, -, -, -⟩ := redBy_ok (tri_take h.tri i) h.len
    have ub := redBy_bits (tri_take h.tri i) h.len h.bd
    have tt : tot (T.take i) + (bt r + 2) ≤ tot T := tot_take hir
    have hir : T[i]? = some r := hir
    have hn := h.n
    have hww := h.ww
    have q0 : ((at_ (redBy w (T.take i) vec) c).natAbs + 1) ≤ 2 ^ (f + tot (T.take i) + 1) := by
      have h1 := ub c
      have : 1 ≤ 2 ^ (f + tot (T.take i)) := Nat.one_le_two_pow
      rw [Nat.pow_succ]
      omega
    have hr0 : at_ r c ≠ 0 := by
      have := hL.2
      omega
    refine ⟨[4], _, xg_name (i := 4) scRB.nd rfl (.inl rfl), ?_⟩
    refine xs_set (i := 5) (P := Vl (.int (c : Int))) ((xp cFP hr (r, w) (xa_cons (v 4) (xa_cons (v 2) xa_nil)) ⟨by show w ≤ r.length; omega, line12 (by have := h.cap; show w ≤ 12; omega)⟩).w fun v H p => ?_) scRB.nd rfl (.inl rfl) ?_
    · have p : v = fpV w r := p
      unfold fpV at p
      rw [fp_lead hL hc] at p
      exact p
    have pre : (redBy w (T.take i) vec).length < sizeLine ∧ ∀ b ∈ r, CMulW (-((at_ (redBy w (T.take i) vec) c).fdiv (at_ r c))) b := by
      refine ⟨by rw [u1]; exact line12 h.cap, fun b hb => mulOk (a := f + tot (T.take i) + 1) (b := bt r) ?_ (bd_mem (bt_bd r) hb) (by omega)⟩
      rw [Int.natAbs_neg]
      exact Nat.le_trans (fdiv_le hr0) q0
    refine xs_set (i := 3) (P := IL (redBy w (T.take (i + 1)) vec)) (xpw cPT hr (redBy w (T.take i) vec, -((at_ (redBy w (T.take i) vec) c).fdiv (at_ r c)), r) (xa_cons (v 3) (xa_cons (xe_un un_neg rv_neg (xe_op op_fdivNW (rv_i (i := at_ (redBy w (T.take i) vec) c) (j := at_ r c) ⟨hr0, Nat.lt_of_le_of_lt (log2_le_of hp) (by omega)⟩) (xe_ix ix_list (fun _ _ => rfl) (rv_ixL (il_at (by omega))) (v 3) (v 5)) (xe_ix ix_list (fun _ _ => rfl) (rv_ixL (il_at (by omega))) (v 4) (v 5)))) (xa_cons (v 4) xa_nil))) pre fun v H p => ?_) scRB.nd rfl (.inl rfl) ?_
    · rw [redBy_take hir, fp_lead hL hc]
      exact p
    refine xs_nil fun σ H h => ⟨(), trivial, (h.unset 4).unset 5⟩
  · rintro - -
    refine xs_done hrt (v 3) fun v H p => ?_
    rw [List.length_map, List.take_length] at p
    exact p
end
/-! ### triangular -/
abbrev sTR : Stmt := top 18
theorem scTR : FnScope ["rows", "width", "basis", "rest", "place", "pivot", "reduced", "row"] ["rows", "width"] (defScope sTR) := ⟨rfl, rfl, rfl, by decide +kernel, rfl, by decide +kernel, by decide +kernel⟩
structure PreTR (W w : Nat) (R0 : List Row) : Prop where
  len : ∀ r ∈ R0, r.length = W
  bd : ∀ r ∈ R0, Bd (2 ^ 20) r
  num : R0.length ≤ 6
  cap : W ≤ 12
  w6 : w ≤ 6
  ww : w ≤ W
structure Tria (W w : Nat) (R0 T S : List Row) : Prop where
  tri : Tri W w T
  eqv : Eqv (T ++ S) R0
  tot : tot T ≤ 671832
  zero : ∀ r ∈ S, ∀ j, j < w → at_ r j = 0
  num : (T ++ S).length = R0.length
theorem TI.tria {W w : Nat} {R0 basis rest acc : List Row} (h : TI W w w R0 basis rest) (hr : RI W w basis acc []) (hw : w ≤ 6) : Tria W w R0 acc rest := by
  obtain ⟨h1, h2, h3⟩ := hr.fin hw
  refine ⟨h1, (h2.app .rfl').trans h.eqv, h3, h.zero, ?_⟩
  have := h.num
  rw [List.length_append] at this ⊢
  rw [hr.num]
  exact this
section
variable {P : Program} {w : World} {K : PySem.W.Frag} {mg : Str → Option Value} {base : Heap}
abbrev spTR : Sp := spP (α := List Row × Nat × Nat) (fun q => PreTR q.2.2 q.2.1 q.1) (fun q => [ILL q.1, Vl (.int (q.2.1 : Int))]) (fun q => ExP (fun y : List Row × List Row => Tria q.2.2 q.2.1 q.1 y.1 y.2) (fun y => Tp [ILL y.1, ILL y.2]))
theorem c_TR (D : Dfn K mg "triangular" sTR ["rows", "width"]) (T : Bt mg) (cCL : Cal P w K mg base 2 "cleared" ["rows", "place"] spCL) (cRB : Cal P w K mg base 2 "reduced_by" ["basis", "vector", "width"] spRB) : Cal P w K mg base 3 "triangular" ["rows", "width"] spTR := D.cal fun f fd F => by
  refine fn_ok F scTR (fun _ _ => rfl) ?_
  rintro ⟨R0, w, W⟩ h cdv A outer s H E B D hB hr hrt hnx
  have h : PreTR W w R0 := h
  have hw6 := h.w6
  have hww := h.ww
  have hw12 := h.cap
  have hn6 := h.num
  refine xs_par (i := 2) (j := 3) rfl scTR.nd rfl rfl (by decide) rfl rfl (xa_cons (xe_lst xa_nil (Nat.zero_le _)) (xa_cons (v 0) xa_nil)) ?_
  refine xs_for (ι := List Row × List Row) PassesOwn.never rfl (xi_range (by rfl) T.range (v 1) (line62 (line12 (show w ≤ 12 by omega)))) (fun k y => TI W w k R0 y.1 y.2) (fun _ y => [some (ILL R0), some (Vl (.int (w : Int))), some (ILL y.1), some (ILL y.2), none, none, none, none]) (fun _ _ => []) ⟨([], R0), TI.init h.len h.bd, (fun _ _ h => h), rfl, fun _ _ h => h⟩ (fun _ _ _ _ _ _ => MO.nil) ?_ ?_
  · rintro k ⟨basis, rest⟩ Q B' bl hQ hI
    have hI : TI W w k R0 basis rest := hI
    have hk : k < w := by
      have := (List.getElem?_eq_some_iff.mp hQ).1
      rw [rngP_len] at this
      exact this
    rw [rngP_at hk] at hQ
    cases hQ
    have hnum := hI.num
    rw [List.length_append] at hnum
    have hbk : beta k ≤ 5828 := by
      rw [← beta5]
      exact beta_mono (by omega)
    refine ⟨[4], _, xg_name (i := 4) scTR.nd rfl (.inl rfl), ?_⟩
    refine xs_asgX (js := [5, 3]) (xpw cCL hr (rest, k, W, beta k) (xa_cons (v 3) (xa_cons (v 4) xa_nil)) ⟨fun r hr => hI.len r (List.mem_append_right _ hr), hI.bd, by show rest.length ≤ 6; omega, hw12, by show k < W; omega, hbk⟩ fun _ _ p => p) ?_
    rintro ⟨pv, O⟩ hC
    have hC : Clr W k (2 ^ beta (k + 1)) (2 ^ beta k) rest pv O := hC
    have hS := hI.step hC
    have hSn := hS.num
    rw [List.length_append] at hSn
    refine ⟨_, xg_tup rfl (xgs_cons (xg_name (i := 5) scTR.nd rfl (.inl rfl)) (xgs_cons (xg_name (i := 3) scTR.nd rfl (.inl rfl)) xgs_nil)), ?_⟩
    refine xs_set (i := 2) (P := ILL (pv.toList ++ basis)) ?_ scTR.nd rfl (.inl rfl) (xs_nil fun σ H h => ⟨(pv.toList ++ basis, O), hS, (h.unset 4).unset 5⟩)
    cases pv with
    | none => exact xe_if (xt_cmp op_isN (rv_isN non_isN) (v 5) xe_non (nomark _)) (fun _ => v 2) (fun ht => by cases ht) rfl
    | some p =>
      refine xe_if (xt_cmp op_isN (rv_isN ls_notN) (v 5) xe_non (nomark _)) (fun ht => by cases ht) (fun _ => (xe_lst (xa_cons (v 5) (xa_starL (v 2) xa_nil)) ?_).w fun v H p => ?_) rfl
      · rw [List.append_nil, List.length_cons, List.length_map, sizeLine_eq]
        show basis.length + 1 ≤ _
        omega
      · rw [List.append_nil] at p
        exact p
  · rintro ⟨basis, rest⟩ hI
    rw [rngP_len] at hI
    have hI : TI W w w R0 basis rest := hI
    have hnum := hI.num
    rw [List.length_append] at hnum
    refine xs_set (i := 6) (xe_lst xa_nil (Nat.zero_le _)) scTR.nd rfl (.inl rfl) ?_
    refine xs_for (ι := List Row) PassesOwn.never rfl (xi_list (v 2)) (fun i acc => RI W w (basis.take i) acc (basis.drop i)) (fun _ acc => [some (ILL R0), some (Vl (.int (w : Int))), some (ILL basis), some (ILL rest), none, none, some (ILL acc), none]) (fun _ _ => []) ⟨[], RI.init hI hw6, (fun _ _ h => h), rfl, fun _ _ h => h⟩ (fun _ _ _ _ _ _ => MO.nil) ?_ ?_
    · rintro i acc Q B' bl hQ hR
      obtain ⟨row, hir, rfl⟩ := ill_get hQ
      have hd : basis.drop i = row :: basis.drop (i + 1) := by
        obtain ⟨hi, e⟩ := List.getElem?_eq_some_iff.mp hir
        rw [← e]
        exact List.drop_eq_getElem_cons hi
      have et : basis.take (i + 1) = basis.take i ++ [row] := by
        rw [List.take_add_one, hir]
        rfl
      rw [hd] at hR
      have hS := hR.step hw6
      rw [← et] at hS
      obtain ⟨c, hc, _, _, hb⟩ := hI.lead row (List.mem_of_getElem? hir)
      have hb6 : Bd (2 ^ 17492) row := hb.mono (by
        rw [← beta6]
        exact Nat.pow_le_pow_right (by decide) (beta_mono (by omega)))
      have ht := hR.tot_le
      have hna := hS.num
      rw [List.length_take, List.length_cons] at hna
      refine ⟨[7], _, xg_name (i := 7) scTR.nd rfl (.inl rfl), ?_⟩
      refine xs_set (i := 6) (P := ILL (redBy w acc row :: acc)) ((xe_lst (xa_cons (xp cRB hr (acc, row, w, W, 17492) (xa_cons (v 6) (xa_cons (v 7) (xa_cons (v 1) xa_nil))) ⟨hR.tri, hR.len row (.head _), hb6, by show 17492 + tot acc < 1000000; omega, hw12, hww⟩) (xa_starL (v 6) xa_nil)) ?_).w fun v H p => ?_) scTR.nd rfl (.inl rfl) ?_
      · rw [List.append_nil, List.length_cons, List.length_map, sizeLine_eq]
        show acc.length + 1 ≤ _
        omega
      · rw [List.append_nil] at p
        exact p
      · exact xs_nil fun σ H h => ⟨_, hS, h.unset 7⟩
    · rintro acc hR
      rw [List.length_map, List.take_length, List.drop_length] at hR
      refine xs_done hrt (xe_tup (xa_cons (v 6) (xa_cons (XLc.ls (xlcM (own := [("row", 7)]) [7] (fun r => [some (ILL R0), some (Vl (.int (w : Int))), some (ILL basis), some (ILL rest), none, none, some (ILL acc), some (IL r)]) rest IL IL rfl scTR.nd (xi_list (v 3)) (blkOk_by (N := ["rows", "width", "basis", "rest", "place", "pivot", "reduced", "row"]) (sc := defScope sTR) (by decide +kernel)) (fun _ _ h => h) (line12 (by omega)) (by decide)
        (fun r hr s H C cl fp => xg_name (i := 7) scTR.nd rfl (.inl rfl)) (fun r hr s H C cl fp => xe_callTy call_list_of rc_listL (by rfl) T.list PyProof.Rows.boot_list (xa_cons (v 7) xa_nil)))) xa_nil)) sl2) fun v H p => ⟨(acc, rest), TI.tria hI hR hw6, p⟩
end
/-! ### tracked -/
abbrev sTK : Stmt := top 20
theorem scTK : FnScope ["rows", "index", "row"] ["rows"] (defScope sTK) := ⟨rfl, rfl, rfl, by decide +kernel, rfl, by decide +kernel, by decide +kernel⟩
section
variable {P : Program} {w : World} {K : PySem.W.Frag} {mg : Str → Option Value} {base : Heap}
theorem enum_pairs {α : Type} (R : α → VP) (xs : List α) : enumP (xs.map R) = ((List.range xs.length).zip xs).map fun q => Tp [Vl (.int (q.1 : Nat)), R q.2] := by
  unfold enumP
  rw [List.length_map, List.zipWith_map_right, List.zip, List.map_zipWith]
abbrev spTK : Sp := spP (α := List Row) (fun q => q.length ≤ 6 ∧ ∀ r ∈ q, r.length ≤ 6) (fun q => [ILL q]) (fun q => ILL (track q))
theorem c_TK (D : Dfn K mg "tracked" sTK ["rows"]) (T : Bt mg) (cUn : Cal P w K mg base 1 "unit" ["size", "place"] spUn) : Cal P w K mg base 2 "tracked" ["rows"] spTK := D.cal fun f fd F => by
  refine fn_ok F scTK (fun _ _ => rfl) ?_
  rintro R ⟨hn, hl⟩ cdv A outer s H E B D hB hr hrt hnx
  have hn : R.length ≤ 6 := hn
  have hl : ∀ r ∈ R, r.length ≤ 6 := hl
  refine xs_done hrt (XLc.ls (xlcM (own := [("index", 1), ("row", 2)]) [1, 2] (fun q : Nat × Row => [some (ILL R), some (Vl (.int (q.1 : Int))), some (IL q.2)]) ((List.range R.length).zip R) (fun q => Tp [Vl (.int (q.1 : Nat)), IL q.2]) (fun q => IL (q.2 ++ Mt.unit R.length q.1)) rfl scTK.nd ?_ (blkOk_by (N := ["rows", "index", "row"]) (sc := defScope sTK) (by decide +kernel)) (fun _ _ h => h) ?_ (by decide) ?_ ?_)) ?_
  · rw [← enum_pairs IL]
    exact xi_enum (by rfl) T.enumerate (v 0)
  · rw [List.length_zip, List.length_range]
    exact line12 (by omega)
  · intro q hq s H C cl fp
    exact xg_tup rfl (xgs_cons (xg_name (i := 1) scTK.nd rfl (.inl rfl)) (xgs_cons (xg_name (i := 2) scTK.nd rfl (.inl rfl)) xgs_nil))
  · rintro ⟨i, r⟩ hq s H C cl fp
    have hlr := hl r (List.of_mem_zip hq).2
    refine XE.w (xe_lst (xa_starL (v 2) (xa_starL (xpw cUn hr (R.length, i) (xa_cons (XE.w (xe_callB call_len_seq rc_lenL (by rfl) T.len bt_len (xa_cons (v 0) xa_nil)) fun v H p => ?_) (xa_cons (v 1) xa_nil)) (line12 (show R.length ≤ 12 by omega)) (fun _ _ p => p)) xa_nil)) ?_) fun v H p => ?_
    · rw [List.length_map] at p
      exact p
    · show (List.map _ r ++ (List.map _ (Mt.unit R.length i) ++ [])).length ≤ _
      rw [List.append_nil, List.length_append, List.length_map, List.length_map, unit_len, sizeLine_eq]
      omega
    · rw [List.append_nil] at p
      show (IL (r ++ Mt.unit R.length i)).p v H
      unfold IL
      rw [List.map_append]
      exact p
  · intro v H h
    have e : ((List.range R.length).zip R).map (fun q => IL (q.2 ++ Mt.unit R.length q.1)) = (track R).map IL := by
      unfold track
      rw [List.zip, List.map_zipWith, List.map_zipWith, List.zipWith_comm]
    rw [e] at h
    exact h
end
end Y
/-! text Zf -/
set_option Elab.async false
set_option linter.all false
set_option maxRecDepth 100000
set_option exponentiation.threshold 2000000
namespace Y
open PySem PySem.Spec PyProof.Rows L2 Mt
theorem track_len {R : List Row} {w : Nat} (h : ∀ r ∈ R, r.length = w) : ∀ t ∈ track R, t.length = w + R.length := fun t ht => by
  obtain ⟨i, r, hr, rfl⟩ := track_mem ht
  rw [List.length_append, h r (List.mem_of_getElem? hr), unit_len]
theorem track_num (R : List Row) : (track R).length = R.length := by simp [track]
theorem at_app (x y : Row) (j : Nat) : at_ (x ++ y) j = if j < x.length then at_ x j else at_ y (j - x.length) := by
  split
  · exact at_app_l (by assumption)
  · have e : j = x.length + (j - x.length) := by omega
    rw [e, at_app_r, Nat.add_sub_cancel_left]
theorem bd_app {N : Nat} {x y : Row} (hx : Bd N x) (hy : Bd N y) : Bd N (x ++ y) := fun j => by
  rw [at_app]
  split
  · exact hx j
  · exact hy _
theorem bd_unit {N m i : Nat} (h : 1 ≤ N) : Bd N (Mt.unit m i) := fun j => by
  by_cases hj : j < m
  · rw [at_unit hj]
    split <;> simp <;> omega
  · rw [at_out (by rw [unit_len]; omega)]
    simp
theorem bd_zero {N m : Nat} : Bd N (List.replicate m 0) := fun j => by
  unfold at_
  rw [List.getD_eq_getElem?_getD, List.getElem?_replicate]
  split <;> simp
theorem track_bd {R : List Row} (h : ∀ r ∈ R, Bd (2 ^ 20) r) : ∀ t ∈ track R, Bd (2 ^ 20) t := fun t ht => by
  obtain ⟨i, r, hr, rfl⟩ := track_mem ht
  exact bd_app (h r (List.mem_of_getElem? hr)) (bd_unit (by decide))
theorem bd_neg {N : Nat} {x : Row} (h : Bd N x) : Bd N (x.map fun i => -i) := fun j => by
  have := at_neg x j
  unfold negR at this
  rw [this, Int.natAbs_neg]
  exact h j
theorem bd_drop {N n : Nat} {x : Row} (h : Bd N x) : Bd N (x.drop n) := fun j => by
  have : at_ (x.drop n) j = at_ x (n + j) := by
    unfold at_
    rw [List.getD_eq_getElem?_getD, List.getD_eq_getElem?_getD, List.getElem?_drop]
  rw [this]
  exact h _
def Fac (R : List Row) (vec : Row) (w : Nat) : Option Row → Prop
  | none => ¬ ∃ f : Row, ∀ j, j < w → at_ vec j = comb f R j
  | some f => f.length = R.length ∧ (∀ j, j < w → at_ vec j = comb f R j) ∧ Bd (2 ^ 971832) f
structure PreFO (R : List Row) (vec : Row) (w : Nat) : Prop where
  len : ∀ r ∈ R, r.length = w
  bd : ∀ r ∈ R, Bd (2 ^ 20) r
  num : R.length ≤ 6
  w6 : w ≤ 6
  vl : vec.length = w
  vb : Bd (2 ^ 300000) vec
abbrev sFO : Stmt := top 21
theorem scFO : FnScope ["rows", "vector", "width", "basis", "left", "row", "entry"] ["rows", "vector"] (defScope sFO) := ⟨rfl, rfl, rfl, by decide +kernel, rfl, by decide +kernel, by decide +kernel⟩
theorem any_ne (l : Row) : (l.map fun i => (i != 0)).any id = false → ∀ x ∈ l, x = 0 := fun h x hx => by
  rw [List.any_eq_false] at h
  have := h (x != 0) (List.mem_map.mpr ⟨x, hx, rfl⟩)
  simpa using this
section
variable {P : Program} {w : World} {K : PySem.W.Frag} {mg : Str → Option Value} {base : Heap}
abbrev spFO : Sp := spP (α := List Row × Row × Nat) (fun q => PreFO q.1 q.2.1 q.2.2) (fun q => [ILL q.1, IL q.2.1]) (fun q => ExP (Fac q.1 q.2.1 q.2.2) oIL)
theorem c_FO (D : Dfn K mg "factors_of" sFO ["rows", "vector"]) (T : Bt mg) (cTR : Cal P w K mg base 3 "triangular" ["rows", "width"] spTR) (cTK : Cal P w K mg base 2 "tracked" ["rows"] spTK) (cRB : Cal P w K mg base 2 "reduced_by" ["basis", "vector", "width"] spRB) : Cal P w K mg base 4 "factors_of" ["rows", "vector"] spFO := D.cal fun f fd F => by
  refine fn_ok F scFO (fun _ _ => rfl) ?_
  rintro ⟨R, vec, w⟩ h cdv A outer s H E B D hB hr hrt hnx
  have h : PreFO R vec w := h
  have hw6 := h.w6
  have hn6 := h.num
  have hr3 : Room 3 (dA "factors_of" sFO f cdv A s) := hr
  refine xs_set (i := 2) (P := Vl (.int (w : Int))) (XE.w (xe_callB call_len_seq rc_lenL (by rfl) T.len bt_len (xa_cons (v 1) xa_nil)) fun v H p => ?_) scFO.nd rfl (.inl rfl) ?_
  · rw [List.length_map, h.vl] at p
    exact p
  refine xs_set (i := 3) (xe_ix ix_tup (fun _ _ => rfl) (rv_exl (R := fun y : List Row × List Row => ILL y.1) fun y fy => rv_ixT (n := 0) rfl) (xpw cTR hr (track R, w, w + R.length) (xa_cons (xpw cTK (hr.mono (by omega)) R (xa_cons (v 0) xa_nil) ⟨hn6, fun r hr => by rw [h.len r hr]; exact hw6⟩ fun _ _ p => p) (xa_cons (v 2) xa_nil)) ⟨track_len h.len, track_bd h.bd, by show (track R).length ≤ 6; rw [track_num]; exact hn6, by show w + R.length ≤ 12; omega, hw6, by show w ≤ w + R.length; omega⟩ fun _ _ p => p) xe_int) scFO.nd rfl (.inl rfl) ?_
  refine xs_open (i := 3) rfl ?_
  rintro ⟨T', S⟩ hT
  have hT : Tria (w + R.length) w (track R) T' S := hT
  have hvl : (vec ++ List.replicate R.length 0 : Row).length = w + R.length := by rw [List.length_append, List.length_replicate, h.vl]
  have hvb : Bd (2 ^ 300000) (vec ++ List.replicate R.length 0 : Row) := bd_app h.vb bd_zero
  have htot := hT.tot
  obtain ⟨ul, -, -, -⟩ := redBy_ok hT.tri hvl
  have ub : Bd (2 ^ 971832) (redBy w T' (vec ++ List.replicate R.length 0)) := (redBy_bits hT.tri hvl hvb).mono (Nat.pow_le_pow_right (by decide) (by omega))
  refine xs_set (i := 4) (P := IL (redBy w T' (vec ++ List.replicate R.length 0))) (xpw cRB (hr.mono (by omega)) (T', (vec ++ List.replicate R.length 0 : Row), w, w + R.length, 300000) (xa_cons (v 3) (xa_cons (P := IL (vec ++ List.replicate R.length 0)) (XE.w (xe_lst (xa_starL (v 1) (xa_starL (XLc.ls (xlcM (own := [("row", 5)]) [5] (fun r => [some (ILL R), some (IL vec), some (Vl (.int (w : Int))), some (ILL T'), none, some (IL r), none]) R IL (fun _ => Vl (.int 0)) rfl scFO.nd (xi_list (v 0)) (blkOk_by (N := ["rows", "vector", "width", "basis", "left", "row", "entry"]) (sc := defScope sFO) (by decide +kernel)) (fun _ _ h => h) (line12 (by omega)) (by decide)
      (fun r hr s H C cl fp => xg_name (i := 5) scFO.nd rfl (.inl rfl)) (fun r hr s H C cl fp => xe_int))) xa_nil)) ?_) fun v H p => ?_) (xa_cons (v 2) xa_nil))) ⟨hT.tri, hvl, hvb, by show 300000 + tot T' < 1000000; omega, by show w + R.length ≤ 12; omega, by show w ≤ w + R.length; omega⟩ fun _ _ p => p) scFO.nd rfl (.inl rfl) ?_
  · rw [List.append_nil, List.length_append, List.length_map, List.length_map, h.vl, sizeLine_eq]
    omega
  · rw [List.append_nil] at p
    have e : (vec.map fun i => Vl (.int i)) ++ (R.map fun _ => Vl (.int 0)) = (vec ++ List.replicate R.length 0 : Row).map fun i => Vl (.int i) := by
      rw [List.map_append, List.map_replicate, List.map_const']
    rw [e] at p
    exact p
  have cap : ∀ l : Row, l.length ≤ 12 → l.length < sizeLine := fun l q => line12 q
  have tk : ((redBy w T' (vec ++ List.replicate R.length 0)).take w).length ≤ 12 := by
    rw [List.length_take, ul]
    omega
  have dr : ((redBy w T' (vec ++ List.replicate R.length 0)).drop w).length = R.length := by
    rw [List.length_drop, ul]
    omega
  have i1 : ∀ {X : Cx} {G : Gam} {e : Expr}, XE X [] e G [] (Ls (((redBy w T' (vec ++ List.replicate R.length 0)).map fun i => Vl (.int i)).take w)) [] → XE X [] e G [] (IL ((redBy w T' (vec ++ List.replicate R.length 0)).take w)) [] := fun q => q.w fun v H p => by
    unfold IL
    rw [List.map_take]
    exact p
  have i2 : ∀ {X : Cx} {G : Gam} {e : Expr}, XE X [] e G [] (Ls (((redBy w T' (vec ++ List.replicate R.length 0)).map fun i => Vl (.int i)).drop w)) [] → XE X [] e G [] (IL ((redBy w T' (vec ++ List.replicate R.length 0)).drop w)) [] := fun q => q.w fun v H p => by
    unfold IL
    rw [List.map_drop]
    exact p
  refine xs_when (p := (· = (((redBy w T' (vec ++ List.replicate R.length 0)).take w).map fun i => (i != 0)).any id)) (xt_val (XE.w (xe_callB (cr_any rfl) rc_any (by rfl) T.any bt_any (xa_cons (XE.w (XLc.ls (xlcM (own := [("entry", 6)]) [6] (fun i => [some (ILL R), some (IL vec), some (Vl (.int (w : Int))), some (ILL T'), some (IL (redBy w T' (vec ++ List.replicate R.length 0))), none, some (Vl (.int i))]) ((redBy w T' (vec ++ List.replicate R.length 0)).take w) (fun i => Vl (.int i)) (fun i => Vl (.bl (i != 0))) rfl scFO.nd (xi_list (i1 (xe_to (v 4) (v 2)))) (blkOk_by (N := ["rows", "vector", "width", "basis", "left", "row", "entry"]) (sc := defScope sFO) (by decide +kernel)) (fun _ _ h => h) (cap _ tk) (by decide)
      (fun r hr s H C cl fp => xg_name (i := 6) scFO.nd rfl (.inl rfl)) (fun r hr s H C cl fp => xe_cmp op_ne rv_neI (v 6) xe_int (nomark _)))) fun v H p => ?_) xa_nil)) fun _ _ p => p)) (fun ht => ?_) (fun ht => ?_)
  · rw [List.map_map]
    exact p
  · refine xs_done hrt xe_non fun v H p => ⟨none, ?_, p⟩
    rintro ⟨f, hf⟩
    have z := factors_none h.len h.vl hT.tri hT.zero hT.eqv hf
    have ht := ht.symm
    rw [List.any_map, List.any_eq_true] at ht
    obtain ⟨x, hx, hx0⟩ := ht
    obtain ⟨j, hj, e⟩ := List.mem_iff_getElem.mp hx
    have hj2 := hj
    rw [List.length_take] at hj2
    have := z j (by omega)
    rw [List.getElem_take] at e
    unfold at_ at this
    rw [List.getD_eq_getElem?_getD, List.getElem?_eq_getElem (by omega), Option.getD_some, e] at this
    rw [this] at hx0
    cases hx0
  · have z : ∀ j, j < w → at_ (redBy w T' (vec ++ List.replicate R.length 0)) j = 0 := fun j hj => by
      have q := any_ne _ ht.symm
      have hl : j < ((redBy w T' (vec ++ List.replicate R.length 0)).take w).length := by
        rw [List.length_take, ul]
        omega
      have := q _ (List.getElem_mem hl)
      rw [List.getElem_take] at this
      unfold at_
      rw [List.getD_eq_getElem?_getD, List.getElem?_eq_getElem (by rw [ul]; omega), Option.getD_some]
      exact this
    refine xs_done hrt (XLc.ls (xlcM (own := [("entry", 6)]) [6] (fun i => [some (ILL R), some (IL vec), some (Vl (.int (w : Int))), some (ILL T'), some (IL (redBy w T' (vec ++ List.replicate R.length 0))), none, some (Vl (.int i))]) ((redBy w T' (vec ++ List.replicate R.length 0)).drop w) (fun i => Vl (.int i)) (fun i => Vl (.int (-i))) rfl scFO.nd (xi_list (i2 (xe_from (v 4) (v 2)))) (blkOk_by (N := ["rows", "vector", "width", "basis", "left", "row", "entry"]) (sc := defScope sFO) (by decide +kernel)) (fun _ _ h => h) (cap _ (by rw [dr]; omega)) (by decide)
      (fun r hr s H C cl fp => xg_name (i := 6) scFO.nd rfl (.inl rfl)) (fun r hr s H C cl fp => xe_un un_neg rv_neg (v 6)))) fun v H p => ⟨some (((redBy w T' (vec ++ List.replicate R.length 0)).drop w).map fun i => -i), ⟨?_, factors_ok h.len h.vl hT.tri hT.zero hT.eqv z, bd_neg (bd_drop ub)⟩, ?_⟩
    · rw [List.length_map, dr]
    · show (IL _).p v H
      unfold IL
      rw [List.map_map]
      exact p
end
end Y
/-! text S1 -/
set_option Elab.async false
set_option linter.all false
set_option maxRecDepth 100000
namespace Y
open PySem PySem.Spec PyProof.Rows L2
/-! ### sets of texts, after the library's sets of ints -/
abbrev SK (P : Program) (w : World) := PySem.strKind P w
theorem SK_is (P : Program) (w : World) (k : Str) (t : Tok) : (SK P w).is k (.str k t) = true := PySem.strKind_is P w k t
def keyT (e : Int × Value) : Str := match e.2 with | .str k _ => k | _ => Str.empty
def GoodT (w : World) (e : Int × Value) : Prop := ∃ k tk, e.2 = Value.str k tk ∧ e.1 = hashStr w k

/-- the set of ints at a: S its members, n their number; its table rises and can be walked -/
def SetS (w : World) (h : Heap) (a : Addr) (S : Str → Bool) (n : Nat) : Prop :=
  ∃ o es ep t, h.get? a = some o ∧ o.ExactSet ∧ o.data = .set es ep t ∧ (∀ e ∈ es.toList, GoodT w e) ∧ (es.toList.map keyT).Nodup ∧ (∀ k, S k = true ↔ k ∈ es.toList.map keyT) ∧
    es.size < scanBound ∧ t.fits es.size = true ∧ es.size = n ∧ Ris t.place.toList ∧ (w.params.followText "set-order" = true ∨ t.led = true)

section
variable {P : Program} {w : World} {h h' : Heap} {a : Addr} {S : Str → Bool} {n : Nat}

theorem SetS.at (R : SetS w h a S n) (k : ∀ o, h.get? a = some o → h'.get? a = some o) : SetS w h' a S n := by
  obtain ⟨o, es, ep, t, ho, r⟩ := R
  exact ⟨o, es, ep, t, k o ho, r⟩
theorem SetS.lt (R : SetS w h a S n) : a < h.objs.size := by
  obtain ⟨o, es, ep, t, ho, r⟩ := R
  exact Heap.lt_size ho
theorem SetS.congr {S' : Str → Bool} (R : SetS w h a S n) (e : ∀ k, S' k = S k) : SetS w h a S' n := by
  have q : S' = S := funext e
  rw [q]; exact R
theorem goodT_elems {l : List (Int × Value)} (g : ∀ e ∈ l, GoodT w e) : ElemsOf (SK P w) l := fun e he => by
  obtain ⟨k, tk, h1, h2⟩ := g e he
  exact ⟨⟨k, by rw [h1]; exact SK_is P w k tk, h2⟩, by rw [h1] <;> rfl⟩
theorem goodT_is {e : Int × Value} (g : GoodT w e) (k : Str) : (SK P w).is k e.2 = true ↔ keyT e = k := by
  obtain ⟨k0, tk, h1, _⟩ := g
  unfold keyT
  rw [h1]
  show ((k0 == k) = true) ↔ k0 = k
  exact beq_iff_eq
theorem goodT_mem {l : List (Int × Value)} (g : ∀ e ∈ l, GoodT w e) (k : Str) : k ∈ l.map keyT ↔ ∃ e ∈ l, (SK P w).is k e.2 = true := by
  rw [List.mem_map]
  constructor
  · rintro ⟨e, he, q⟩
    exact ⟨e, he, (goodT_is (g e he) k).2 q⟩
  · rintro ⟨e, he, q⟩
    exact ⟨e, he, (goodT_is (g e he) k).1 q⟩
theorem SetS.setOf (R : SetS w h a S n) : h.SetOf (SK P w) a S n := by
  obtain ⟨o, es, ep, t, ho, hx, hd, g, nd, hm, hb, hf, hn, _⟩ := R
  exact ⟨o, es, ep, t, ho, hx, hd, goodT_elems g, fun k => (hm k).trans (goodT_mem g k), hb, hf, hn⟩
end

section
variable {P : Program} {w : World} {A : Around} {E : Value → Shared → Prop} {s : Shared} {a : Addr} {S : Str → Bool} {n : Nat}

/-! ### add -/
theorem storeS_at {h : Heap} {a : Addr} {o : Obj} {es es' : Array (Int × Value)} {ep : Nat} {t t' : SetTable} (ho : h.get? a = some o) (hd : o.data = .set es ep t) :
    (h.update a (Obj.putSet es' t')).get? a = some { o with data := .set es' (ep + 1) t' } := by
  have q := Heap.get?_update_self (Obj.putSet es' t') ho (by rw [putSet_of es' t' hd]; rfl)
  rw [putSet_of es' t' hd] at q
  exact q

theorem setS_tail {g : Bool → Sem Unit} (hg : ∀ (b : Bool) (s₁ : Shared) (Q' : Unit → Shared → Prop), Q' () s₁ → wpAny (model P w) A (g b) Q' E s₁)
    {o : Obj} {es : Array (Int × Value)} {ep : Nat} {t : SetTable} (ho : s.heap.get? a = some o) (hex : o.ExactSet) (hd : o.data = .set es ep t)
    {es1 : Array (Int × Value)} {t2 : SetTable} {S' : Str → Bool} (g1 : ∀ e ∈ es1.toList, GoodT w e) (nd1 : (es1.toList.map keyT).Nodup) (m1 : ∀ k, S' k = true ↔ k ∈ es1.toList.map keyT)
    (hb1 : es1.size < scanBound) (hf2 : t2.fits es1.size = true) (hr : Ris t2.place.toList) (hl : w.params.followText "set-order" = true ∨ t2.led = true) {wasDummy : Bool} {R : Option Bool → Shared → Prop}
    (hR : ∀ h', Heap.SameBut a s.heap h' → SetS w h' a S' es1.size → R (some true) { s with heap := h' }) :
    wpAny (model P w) A (do
        storeSet a es1 t2
        if (!wasDummy && t2.tooFull) = true then do
            g (relayAll t2 es1 (SetTable.grown es1.size)).2.2
            storeSet a (relayAll t2 es1 (SetTable.grown es1.size)).1 (relayAll t2 es1 (SetTable.grown es1.size)).2.1
            pure (some true)
          else pure (some true)) R E s := by
  refine wpAny_bind (wpAny_storeSet_of ho hd ?_ (fits_of_scanBound hb1))
  have ho1 := storeS_at (es' := es1) (t' := t2) ho hd
  have sb1 := Heap.SameBut.update s.heap a (Obj.putSet es1 t2)
  split
  · have pm := relayAll_perm t2 es1 (SetTable.grown es1.size)
    have hf3 := relayAll_fits t2 es1 (SetTable.grown es1.size)
    have hr3 := relayAll_ris t2 es1 (SetTable.grown es1.size)
    have hl3 := relayAll_led t2 es1 (SetTable.grown es1.size)
    generalize relayAll t2 es1 (SetTable.grown es1.size) = Z at pm hf3 hr3 hl3 ⊢
    obtain ⟨es2, t3, gave⟩ := Z
    dsimp only at pm hf3 hr3 hl3 ⊢
    have hsz : es2.size = es1.size := by rw [← Array.length_toList, pm.length_eq, Array.length_toList]
    have hb2 : es2.size < scanBound := by rw [hsz]; exact hb1
    refine wpAny_bind (hg _ _ _ ?_)
    refine wpAny_bind (wpAny_storeSet_of ho1 rfl ?_ (fits_of_scanBound hb2))
    have ho2 := storeS_at (es' := es2) (t' := t3) ho1 rfl
    refine wpAny_pure (hR _ (sb1.trans (Heap.SameBut.update _ a _)) ?_)
    exact ⟨_, es2, _, t3, ho2, hex, rfl, fun e he => g1 e (pm.mem_iff.mp he), (pm.map keyT).nodup_iff.mpr nd1, fun k => (m1 k).trans (pm.map keyT).mem_iff.symm, hb2, hf3, hsz, hr3,
      hl.imp id fun z => by rw [hl3]; exact z⟩
  · exact wpAny_pure (hR _ sb1 ⟨_, es1, _, t2, ho1, hex, rfl, g1, nd1, m1, hb1, hf2, rfl, hr, hl⟩)

theorem setS_put {k : Str} {tk : Tok} {Q : Bool → Shared → Prop} (R : SetS w s.heap a S n) (room : n + 1 < scanBound)
    (hQ : ∀ h', Heap.SameBut a s.heap h' → SetS w h' a (fun j => S j || decide (j = k)) (if S k = true then n else n + 1) → Q (!S k) { s with heap := h' }) :
    wpAny (model P w) A (setAddHashed a (.str k tk) ((SK P w).hash k)) Q E s := by
  obtain ⟨o, es, ep, t, ho, hex, hd, g, nd, hm, hb, hf, hn, hr, hl⟩ := R
  have hkey : (SK P w).is k (.str k tk) = true := SK_is P w k tk
  have hsc : (Value.str k tk).scannable = true := rfl
  have hel : ElemsOf (SK P w) es.toList := goodT_elems g
  unfold setAddHashed setAddHashedIn
  refine wpAny_holding (wpAny_bind (wpAny_setState_of ho hd hf ?_))
  dsimp only
  rw [byScan_of hsc hb hel]
  simp only [↓reduceIte]
  unfold setAddByScan
  refine wpAny_bind ?_
  refine wpAny_bind (wpAny_rule ?_)
  refine wpAny_bind (wpAny_setScan_of hkey ho hd hf hel ?_)
  cases hfi : List.findIdx? (fun e => (SK P w).is k e.2) es.toList with
  | some j =>
    dsimp only
    obtain ⟨hj, pj, _⟩ := List.findIdx?_eq_some_iff_getElem.mp hfi
    have hSk : S k = true := (hm k).2 ((goodT_mem (P := P) (w := w) g k).2 ⟨es.toList[j], List.getElem_mem hj, pj⟩)
    refine wpAny_pure (wpAny_pure ?_)
    have q := hQ s.heap (Heap.SameBut.refl a s.heap) ⟨o, es, ep, t, ho, hex, hd, g, nd, fun i => by
      rw [Bool.or_eq_true, decide_eq_true_eq, ← hm i]
      exact ⟨fun z => z.elim id (fun e => e ▸ hSk), .inl⟩, hb, hf, by rw [if_pos hSk]; exact hn, hr, hl⟩
    rw [hSk] at q
    exact q
  | none =>
    dsimp only
    have hnk : k ∉ es.toList.map keyT := fun z => by
      obtain ⟨e, he, q⟩ := (goodT_mem (P := P) (w := w) g k).1 z
      have c := List.findIdx?_eq_none_iff.mp hfi e he
      rw [q] at c
      cases c
    have hSk : S k = false := by
      cases q : S k with
      | false => rfl
      | true => exact absurd ((hm k).1 q) hnk
    have hgw : ∀ (b : Bool) {s₁ : Shared} {Q' : Unit → Shared → Prop}, Q' () s₁ → wpAny (model P w) A (match b with | true => rule "set.scan.the-table-gave-way" | false => pure ()) Q' E s₁ :=
      fun b s₁ Q' q => by cases b <;> first | exact wpAny_pure q | exact wpAny_rule q
    have pm := layNew_perm t es ((SK P w).hash k) (.str k tk)
    have hf1 := layNew_fits t es ((SK P w).hash k) (.str k tk)
    have hr1 := layNew_ris t es ((SK P w).hash k) (.str k tk) hr
    have hl1 := layNew_led t es ((SK P w).hash k) (.str k tk)
    generalize layNew t es ((SK P w).hash k) (.str k tk) = Z at pm hf1 hr1 hl1 ⊢
    obtain ⟨es1, t1, wasDummy, gave⟩ := Z
    dsimp only at pm hf1 hr1 hl1 ⊢
    rw [Array.toList_push] at pm
    have pc : es1.toList.Perm (((SK P w).hash k, Value.str k tk) :: es.toList) := pm.trans (List.perm_append_singleton _ _)
    have pk : (es1.toList.map keyT).Perm (k :: es.toList.map keyT) := pc.map keyT
    have g1 : ∀ e ∈ es1.toList, GoodT w e := fun e he => by
      rcases List.mem_cons.mp (pc.mem_iff.mp he) with z | z
      · rw [z]; exact ⟨k, tk, rfl, rfl⟩
      · exact g e z
    have nd1 : (es1.toList.map keyT).Nodup := pk.nodup_iff.mpr (List.nodup_cons.mpr ⟨hnk, nd⟩)
    have m1 : ∀ i, (S i || decide (i = k)) = true ↔ i ∈ es1.toList.map keyT := fun i => by
      rw [Bool.or_eq_true, decide_eq_true_eq, hm i, pk.mem_iff, List.mem_cons]
      exact Or.comm
    have hsz : es1.size = n + 1 := by rw [← Array.length_toList, pc.length_eq, List.length_cons, Array.length_toList, hn]
    have hb1 : es1.size < scanBound := by rw [hsz]; exact room
    have hled : w.params.followText "set-order" = true ∨ t1.led = true := hl.imp id fun z => by rw [hl1]; exact z
    have fin : ∀ h', Heap.SameBut a s.heap h' → SetS w h' a (fun j => S j || decide (j = k)) es1.size → Q true { s with heap := h' } := fun h' sb r => by
      have q := hQ h' sb
      rw [hSk] at q
      rw [hsz] at r
      exact q r
    refine wpAny_bind (hgw _ ?_)
    split
    · refine wpAny_bind ?_
      rw [hashByValue_scannable 8 hsc]
      refine wpAny_pure ?_
      refine setS_tail ?_ ho hex hd g1 nd1 m1 hb1 ?_ ?_ ?_ ?_
      · intro b s₁ Q' q; cases b <;> first | exact wpAny_pure q | exact wpAny_rule q
      · first | (split <;> first | exact hf1 | exact SetTable.fits_plain_off hf1) | exact hf1
      · first | (split <;> exact hr1) | exact hr1
      · first | (split <;> exact hled) | exact hled
      · intro h' sb r; dsimp only; exact wpAny_pure (fin h' sb r)
    · refine wpAny_bind (wpAny_pure ?_)
      simp only [↓reduceIte]
      refine setS_tail ?_ ho hex hd g1 nd1 m1 hb1 hf1 hr1 hled ?_
      · intro b s₁ Q' q; cases b <;> first | exact wpAny_pure q | exact wpAny_rule q
      · intro h' sb r; dsimp only; exact wpAny_pure (fin h' sb r)

end

theorem setS_at {w : World} {h : Heap} {a : Addr} {ns : List Str} (ho : h.get? a = some { cls := .type "set", dict := none, data := .set #[] 0 (.fresh 0 0 (!w.params.followText "set-order")) }) : SetS w h a (fun j => decide (j ∈ ns.take 0)) 0 :=
  ⟨_, #[], 0, _, ho, ⟨rfl, rfl, rfl⟩, rfl, (fun e he => by simp at he), (by simp), (fun k => by simp), (by decide), (by rfl), rfl, List.Pairwise.nil, by
    show _ ∨ (!w.params.followText "set-order") = true
    cases w.params.followText "set-order"
    · exact .inr rfl
    · exact .inl rfl⟩
section
variable {P : Program} {w : World} {A : Around} {E : Value → Shared → Prop} {s : Shared}
theorem set_update_txts {I : Addr} {fp wr : List Addr} {G : Array GenState → Array GenState → Prop} {n : Nat} {Pv : Nat → Value → Prop} {St : Nat → Shared → Prop} {R : Result → Shared → Prop}
    (W : WalksS P w A.in1 I fp wr G n Pv St) (S : Addr) (hSf : S ∉ fp) (ns : List Str) (hn : n = ns.length) (hb : ns.length + 1 < scanBound) (hval : ∀ i v, Pv i v → ∃ k t, ns[i]? = some k ∧ v = .str k t) :
    ∀ (k i : Nat) (s : Shared), n - i = k → i ≤ n → St i s → (∃ c, c ≤ i ∧ SetS w s.heap S (fun j => decide (j ∈ ns.take i)) c) →
      (∀ s' c, Moved (S :: wr) G s s' → c ≤ n → SetS w s'.heap S (fun j => decide (j ∈ ns)) c → R (.ok (.ret .none)) s') →
      codeAny (model P w) A (.builtin "set.update.loop" ⟨[.ref S, .ref I], []⟩) R s := by
  have hSw : S ∉ wr := fun h => hSf (W.sub _ h)
  have hsub : ∀ b ∈ wr, b ∈ S :: wr := fun b hb => List.mem_cons_of_mem _ hb
  intro k
  induction k with
  | zero =>
    intro i s hk' hi hst ⟨c, hc, hS⟩ hR
    have hin : i = n := by omega
    subst hin
    refine codeAny_builtin F.entry_set_update_loop ?_
    rw [Around.under_plainId F.plain_set_update_loop _]
    show wpAny _ A.in1 (pyNext (.ref I) >>= _) _ _ s
    refine wpAny_bind (W.done s _ _ hst fun s' hm => ?_)
    show wpAny _ A.in1 (ret Value.none) _ _ s'
    have e : ns.take i = ns := List.take_of_length_le (by omega)
    rw [e] at hS
    exact wpAny_pure (hR s' c (hm.mono hsub) hc (hS.at fun o e => hm.heap S o hSw e))
  | succ k ih =>
    intro i s hk' hi hst ⟨c, hc, hS⟩ hR
    have hlt : i < n := by omega
    refine codeAny_builtin F.entry_set_update_loop ?_
    rw [Around.under_plainId F.plain_set_update_loop _]
    show wpAny _ A.in1 (pyNext (.ref I) >>= _) _ _ s
    refine wpAny_bind (W.item i s _ _ hlt hst fun v s' hP hst' hm => ?_)
    obtain ⟨z, t, hz, rfl⟩ := hval i v hP
    have hS' : SetS w s'.heap S (fun j => decide (j ∈ ns.take i)) c := hS.at fun o e => hm.heap S o hSw e
    show wpAny _ A.in1 (holding [Value.str z t] (setAdd S (.str z t)) >>= _) _ _ s'
    refine wpAny_bind (wpAny_holding ?_)
    unfold setAdd
    refine wpAny_holding ?_
    refine wpAny_bind ((SK P w).pyHash (k := z) (SK_is _ _ _ _) ?_)
    refine setS_put (s := { s' with toks := s'.toks + 1 }) hS' (by omega) fun h' hsb hS2 => ?_
    have hS3 : SetS w h' S (fun j => decide (j ∈ ns.take (i + 1))) (if decide (z ∈ ns.take i) = true then c else c + 1) := hS2.congr fun j => by
      rw [List.take_add_one, hz]
      simp [List.mem_append]
    have hc3 : (if decide (z ∈ ns.take i) = true then c else c + 1) ≤ i + 1 := by
      split <;> omega
    refine wpAny_pure ⟨plainId_quiet F.plain_set_update_loop _, ih (i + 1) _ (by omega) hlt (W.frame _ s' _ _ hst' (Nat.le_succ _) fun b hb o e => ?_) ⟨_, hc3, hS3⟩ fun s'' c2 hm'' hc'' hS'' => ?_⟩
    · rw [hsb.2 b (fun h : b = S => hSf (by rw [← h]; exact hb))]; exact e
    · refine hR s'' c2 (Moved.trans W.gtrans ((hm.mono hsub).then_heap (Nat.le_succ _) fun b o hb e => ?_) hm'') hc'' hS''
      rw [hsb.2 b (fun h : b = S => hb (by rw [h]; exact List.mem_cons_self))]; exact e

set_option maxRecDepth 100000 in
set_option maxHeartbeats 3200000 in
theorem call_set_listT {l : Addr} {items : Array Value} (ns : List Str) {Q : Value → Shared → Prop} (hh : A.handled = none) (hl : s.heap.IsList l items) (hit : StrsAre items.toList ns) (hb : ns.length + 1 < scanBound)
    (h : ∀ (h' : Heap) (tk c : Nat), SetS w h' s.heap.objs.size (fun j => decide (j ∈ ns)) c → c ≤ ns.length → (∀ b o, s.heap.get? b = some o → h'.get? b = some o) → Q (.ref s.heap.objs.size) { s with heap := h', toks := tk }) :
    wpAny (model P w) A (call (.type "set") [.ref l]) Q E s := by
  have hisz : items.size = ns.length := by
    have q := StrsAre.length hit
    rw [Array.length_toList] at q
    exact q
  obtain ⟨c, tl, hmro⟩ := F.called_set.mro
  have hmade := F.called_set.made
  have hsub := F.called_set.sub
  refine wpAny_call (codeAny_of_tree ?_)
  show wpAny _ _ (callAny (.type "set") _) _ _ _
  refine wpAny_pure ⟨Code.quiet_builtin _ (by decide +kernel), codeAny_builtin F.entry_type_call ?_⟩
  rw [Around.under_plain (weight_type_call_type "set" [.ref l] []) rfl]
  have h1 := F.called_set.notType
  have h2 := F.called_set.canCreate
  have hct := F.typeCall_set_1 (.ref l)
  repeat (any_goals (first | assumption | wp_step))

  refine codeAny_mono (L2.code_set_led1 (.ref l) (E := E) (Q₁ := fun obj s₁ => obj = .ref s.heap.objs.size ∧ s₁ = { s with heap := s.heap.push { cls := .type "set", dict := none, data := .set #[] 0 (.fresh 0 0 (!w.params.followText "set-order")) } }) ⟨rfl, rfl⟩) fun r s₁ hr => ?_
  cases r with
  | error e => exact hr
  | ok fl =>
    cases fl with
    | ret obj =>
      obtain ⟨rfl, rfl⟩ := hr
      have hS : (s.heap.push { cls := .type "set", dict := none, data := .set #[] 0 (.fresh 0 0 (!w.params.followText "set-order")) }).get? s.heap.objs.size = some { cls := .type "set", dict := none, data := .set #[] 0 (.fresh 0 0 (!w.params.followText "set-order")) } := Heap.get?_push_size _ rfl
      have hT : Shared.TypeIs { s with heap := s.heap.push { cls := .type "set", dict := none, data := .set #[] 0 (.fresh 0 0 (!w.params.followText "set-order")) } } (.ref s.heap.objs.size) "set" := ⟨_, hS, rfl⟩
      have hli := F.called_set.init.lookup
      have hbi := F.called_set.init.bind (.ref s.heap.objs.size)
      repeat (any_goals (first | assumption | wp_step))

      refine codeAny_mono (codeAny_call_builtin (R := wants (fun r s₂ => r = .none ∧ ∃ h' tk c, s₂ = { s with heap := h', toks := tk } ∧ SetS w h' s.heap.objs.size (fun j => decide (j ∈ ns)) c ∧ c ≤ ns.length ∧
          (∀ b o, s.heap.get? b = some o → h'.get? b = some o)) E) F.called_set.init.plain F.entry_set_init (check_set_init_1 hT ?_)) fun r₂ s₂ hr₂ => ?_
      · obtain ⟨ol, hol, hcl, nl, hdl⟩ := hl
        obtain ⟨ocls, odict, odata, oslots⟩ := ol
        simp only at hcl hdl
        subst hcl; subst hdl
        have hol' : (s.heap.push { cls := .type "set", dict := none, data := .set #[] 0 (.fresh 0 0 (!w.params.followText "set-order")) }).get? l = some { cls := .type "list", dict := odict, data := .seq items nl, slots := oslots } := Heap.get?_push_of_some _ hol
        have hsls := F.sub_list_set
        have hslf := F.sub_list_frozenset
        have hne : (Value.type "list" == Value.type "dict") = false := by decide
        have hl1 : (s.heap.push { cls := .type "set", dict := none, data := .set #[] 0 (.fresh 0 0 (!w.params.followText "set-order")) }).IsList l items := ⟨_, hol', rfl, nl, rfl⟩
        unfold Builtin.«set.__init__» noKeywords Builtin.Frozenset.updateFrom
        generalize hPI : pyIter = PI
        wp_walk
        subst hPI

        refine wpAny_pyIter_list hl1 ?_
        refine wpAny_bind (wpAny_runValue ?_)
        have hlS : l < s.heap.objs.size := Heap.lt_size hol
        have hh3 : A.in1.in1.in1.handled = none := by simp [hh]
        have hz1 : (s.heap.push { cls := .type "set", dict := none, data := .set #[] 0 (.fresh 0 0 (!w.params.followText "set-order")) }).objs.size = s.heap.objs.size + 1 := Heap.size_push ..
        have hneI : l ≠ (s.heap.push { cls := .type "set", dict := none, data := .set #[] 0 (.fresh 0 0 (!w.params.followText "set-order")) }).objs.size := by
          rw [Heap.size_push]; exact Nat.ne_of_lt (Nat.lt_succ_of_lt hlS)
        have hSf : s.heap.objs.size ∉ [(s.heap.push { cls := .type "set", dict := none, data := .set #[] 0 (.fresh 0 0 (!w.params.followText "set-order")) }).objs.size, l] := by
          rw [Heap.size_push]; simp only [List.mem_cons, List.mem_singleton, List.not_mem_nil, or_false, not_or]
          exact ⟨Nat.ne_of_lt (Nat.lt_succ_self _), Nat.ne_of_gt hlS⟩
        have hval : ∀ (i : Nat) (v : Value), items[i]? = some v → ∃ k t, ns[i]? = some k ∧ v = .str k t := fun i v hv => by
          have hi : i < ns.length := by rw [← hisz]; exact (Array.getElem?_eq_some_iff.mp hv).1
          obtain ⟨t, e⟩ := SS.strs_at hit i v (by rw [Array.getElem?_toList]; exact hv)
          refine ⟨ns[i], t, List.getElem?_eq_getElem hi, ?_⟩
          rw [e, List.getD_eq_getElem?_getD, List.getElem?_eq_getElem hi] <;> rfl
        refine set_update_txts ((Walks.list hh3 _ l hneI items).toS) s.heap.objs.size
          hSf ns hisz hb hval (items.size - 0) 0 _ (by omega) (Nat.zero_le _)
          ⟨⟨_, Heap.get?_push_size _ rfl, rfl, rfl⟩, (hl1.push _)⟩ ?hS0 ?hR
        case hS0 =>
          have hget : ((s.heap.push { cls := .type "set", dict := none, data := .set #[] 0 (.fresh 0 0 (!w.params.followText "set-order")) }).push { cls := .type "list_iterator", data := .fields #[.ref l, .int 0 0] }).get? s.heap.objs.size
              = some { cls := .type "set", dict := none, data := .set #[] 0 (.fresh 0 0 (!w.params.followText "set-order")) } := Heap.get?_push_of_some _ hS
          exact ⟨0, Nat.le_refl 0, setS_at hget⟩
        case hR =>
          intro s' c' hm hc' hS'
          obtain ⟨h', g2, d', tk', os'⟩ := s'
          have eg : g2 = s.gens := hm.gens
          have ed : d' = s.drawn := hm.drawn
          have eo : os' = s.os := hm.os
          subst eg; subst ed; subst eo
          show wpAny _ _ _ _ _ _
          refine wpAny_pure ?_
          show wpAny _ _ (ret Value.none) _ _ _
          rw [hisz] at hc'
          refine wpAny_pure ⟨rfl, h', tk', c', rfl, hS', hc', fun b o e => ?_⟩
          have hb0 : b < s.heap.objs.size := Heap.lt_size e
          have hb1 : b ≠ s.heap.objs.size := Nat.ne_of_lt hb0
          have hb2 : b ≠ (s.heap.push { cls := .type "set", dict := none, data := .set #[] 0 (.fresh 0 0 (!w.params.followText "set-order")) }).objs.size := by
            rw [Heap.size_push]; exact Nat.ne_of_lt (Nat.lt_succ_of_lt hb0)
          exact hm.heap b o (by simp only [List.mem_cons, List.mem_singleton, List.not_mem_nil, or_false, not_or]; exact ⟨hb1, hb2⟩) (Heap.get?_push_of_some _ (Heap.get?_push_of_some _ e))

      · cases r₂ with
        | error e => exact hr₂
        | ok fl₂ =>
          cases fl₂ with
          | ret r =>
            obtain ⟨rfl, h', tk, c', rfl, hS', hc', hk'⟩ := hr₂
            repeat (any_goals (first | assumption | wp_step))
            exact h _ _ _ hS' hc' hk'
          | _ => exact hr₂.elim
    | _ => exact hr.elim

end

end Y
/-! text S2 -/
set_option Elab.async false
set_option linter.all false
set_option maxRecDepth 100000
namespace Y
open PySem PySem.Spec PyProof.Rows L2
/-! ### set(d): the keys of a dict of texts -/
theorem laid_none (mask f m : Nat) (led plain : Bool) : SetTable.laid mask f m led plain #[] = some (⟨mask, #[], #[], f, led, m, plain⟩, #[]) := by
  have e1 : SetTable.layClean mask #[] = some (Array.replicate (mask + 1) none) := by simp [SetTable.layClean]
  have e2 : ((List.range (mask + 1)).filterMap fun j => ((Array.replicate (mask + 1) (none : Option Nat)).getD j none).map (j, ·)) = [] := by
    rw [List.filterMap_eq_nil_iff]
    intro j _
    have : (Array.replicate (mask + 1) (none : Option Nat)).getD j none = none := by
      simp only [Array.getD, Array.size_replicate, Array.getInternal_eq_getElem, Array.getElem_replicate]
      split <;> rfl
    rw [this]
    rfl
  unfold SetTable.laid
  rw [e1]
  show some (_, _) = some (_, _)
  rw [e2]
  rfl
theorem above_small : ∀ n, n < 64 → SetTable.sizeAbove ((0 + n) * 2) ≤ 256 := by decide +kernel
section
variable {P : Program} {w : World} {A : Around} {E : Value → Shared → Prop} {s : Shared}
theorem relay_none {a : Addr} {o : Obj} {ep wanted : Nat} {t : SetTable} {Q : Unit → Shared → Prop} (ho : s.heap.get? a = some o) (hd : o.data = .set #[] ep t) (hf : t.fits 0 = true) (hw : SetTable.sizeAbove wanted ≤ 256)
    (h : Q () { s with heap := s.heap.update a (Obj.putSet #[] ⟨SetTable.sizeAbove wanted - 1, #[], #[], t.finger, t.led, t.movedTo (SetTable.sizeAbove wanted - 1), t.plain⟩) }) : wpAny (model P w) A (setRelay a wanted) Q E s := by
  rw [setRelay_eq]
  refine wpAny_bind (wpAny_setState_of ho hd hf ?_)
  have hz : ¬ SetTable.sizeAbove wanted > sizeLine := by
    rw [sizeLine_eq]
    omega
  dsimp only
  rw [if_neg hz]
  have e : t.relaid ((#[] : Array (Int × Value)).map (·.1)) wanted = some (⟨SetTable.sizeAbove wanted - 1, #[], #[], t.finger, t.led, t.movedTo (SetTable.sizeAbove wanted - 1), t.plain⟩, #[]) := by
    unfold SetTable.relaid
    rw [show (Array.map (fun x : Int × Value => x.1) #[]) = #[] by simp]
    exact laid_none ..
  refine wpAny_bind ?_
  rw [e]
  refine wpAny_pure ?_
  exact wpAny_storeSet_of ho hd h (by rw [sizeLine_eq]; exact Nat.zero_le _)
theorem setS_none {w : World} {h : Heap} {a : Addr} {o : Obj} {ep : Nat} {t : SetTable} (ho : h.get? a = some o) (hex : o.ExactSet) (hd : o.data = .set #[] ep t) (hf : t.fits 0 = true) (hr : t.place = #[]) (hl : w.params.followText "set-order" = true ∨ t.led = true) : SetS w h a (fun _ => false) 0 :=
  ⟨o, #[], ep, t, ho, hex, hd, (fun e he => by simp at he), (by simp), (fun k => by simp), (by decide), hf, rfl, by rw [hr]; exact List.Pairwise.nil, hl⟩
theorem room_none {a : Addr} {ep n : Nat} {t : SetTable} {o : Obj} {Q : Unit → Shared → Prop} (ho : s.heap.get? a = some o) (hex : o.ExactSet) (hd : o.data = .set #[] ep t) (hp : t.place = #[]) (hdm : t.dummies = #[]) (hl : w.params.followText "set-order" = true ∨ t.led = true) (hn : n < 64)
    (h : ∀ h', SetS w h' a (fun _ => false) 0 → Heap.SameBut a s.heap h' → Q () { s with heap := h' }) : wpAny (model P w) A (setRoomFor a n) Q E s := by
  have hf : t.fits 0 = true := by simp [SetTable.fits, SetTable.fill, hp, hdm]
  unfold setRoomFor
  refine wpAny_bind (wpAny_setState_of ho hd hf ?_)
  dsimp only
  cases e : t.roomFor n with
  | none => exact wpAny_pure (h s.heap (setS_none ho hex hd hf hp hl) (Heap.SameBut.refl a s.heap))
  | some wd =>
    have ew : wd = (0 + n) * 2 := by
      unfold SetTable.roomFor at e
      split at e
      · rw [hp] at e
        exact (Option.some.inj e).symm
      · cases e
    subst ew
    refine relay_none ho hd hf (above_small n hn) (h _ ?_ (Heap.SameBut.update s.heap a _))
    exact setS_none (storeS_at ho hd) hex rfl (by simp [SetTable.fits, SetTable.fill]) rfl hl
theorem pairs_at {knd : PySem.KeyKind P w Key} : ∀ {es : List DictEntry} {vs : List (Key × Value)}, PySem.Pairs knd es vs → ∀ (i : Nat) (e : DictEntry), es[i]? = some e → ∃ kv : Key × Value, vs[i]? = some kv ∧ knd.is kv.1 e.key = true
  | _, _, .nil, i, e, h => by simp at h
  | _, _, .cons h1 h2 h3, 0, e, h => by
    simp at h
    subst h
    exact ⟨_, rfl, h1⟩
  | _, _, .cons h1 h2 h3, i + 1, e, h => by
    obtain ⟨kv, a, b⟩ := pairs_at h3 i e (by simpa using h)
    exact ⟨kv, by simpa using a, b⟩
theorem pairs_len {knd : PySem.KeyKind P w Key} : ∀ {es : List DictEntry} {vs : List (Key × Value)}, PySem.Pairs knd es vs → es.length = vs.length
  | _, _, .nil => rfl
  | _, _, .cons h1 h2 h3 => congrArg Nat.succ (pairs_len h3)
theorem from_dict {id : String} {S d : Addr} {vs : List (Key × Value)} {ks : List Str} {led : Bool} {o0 : Obj} {Q : Unit → Shared → Prop} (hne : d ≠ S) (hm : (d == sysModules) = false) (hD : s.heap.DictOf (mixKind P w) d vs) (hks : vs.map (·.1) = ks.map Sum.inr) (h64 : ks.length < 64)
    (hS : s.heap.get? S = some o0) (hex : o0.ExactSet) (hS2 : o0.data = .set #[] 0 (.fresh 0 0 led)) (hl : w.params.followText "set-order" = true ∨ led = true)
    (hQ : ∀ h' c, SetS w h' S (fun j => decide (j ∈ ks)) c → c ≤ ks.length → Heap.SameBut S s.heap h' → Q () { s with heap := h' }) : wpAny (model P w) A (Builtin.Frozenset.updateFrom id S (.ref d)) Q E s := by
  obtain ⟨o, es, ep, ho, hx, hd, hk, hp, nd⟩ := hD
  have hT : s.TypeIs (.ref d) "dict" := ⟨o, ho, hx.1⟩
  have hlen : es.size = ks.length := by
    have e1 := pairs_len hp
    have e2 := congrArg List.length hks
    rw [List.length_map, List.length_map] at e2
    rw [← Array.length_toList, e1, e2]
  unfold Builtin.Frozenset.updateFrom
  refine wpAny_bind ?_
  unfold Builtin.Frozenset.isAnySet orM
  refine wpAny_bind (wpAny_isInstance hT PySem.F.sub_dict_set ?_)
  show wpAny _ _ (isInstance (.ref d) (.type "frozenset")) _ _ s
  refine wpAny_isInstance hT PySem.F.sub_dict_frozenset ?_
  simp only [Bool.false_eq_true, if_false]
  refine wpAny_bind (wpAny_typeOf hT ?_)
  have et : (Value.type "dict" == Value.type "dict") = true := by decide
  simp only [et, if_true]
  refine wpAny_bind (wpAny_rule ?_)
  refine wpAny_bind (m := Builtin.Frozenset.addrOf (.ref d)) (wpAny_pure ?_)
  simp only [hm, Bool.false_eq_true, if_false]
  refine wpAny_bind (wpAny_dictEpoch ho hd ?_)
  refine wpAny_bind (wpAny_dictEntries ho hd ?_)
  refine wpAny_bind (room_none hS hex hS2 rfl rfl hl (by rw [hlen]; exact h64) fun h1 R1 sb1 => ?_)
  have ho1 : h1.get? d = some o := (sb1.2 d hne).trans ho
  refine wpAny_bind (wpAny_dictEntries (s := { s with heap := h1 }) ho1 hd ?_)
  refine wpAny_bind ?_
  refine TI.forIn_rng _ (fun rest b s' => ∃ i h' c, rest = List.range' i (es.size - i) ∧ i ≤ es.size ∧ c ≤ i ∧ s' = { s with heap := h' } ∧ SetS w h' S (fun j => decide (j ∈ ks.take i)) c ∧ Heap.SameBut S s.heap h') _ ?_ ?_ _ ?_
  · rintro x rest b s' ⟨i, h', c, hr, hi, hc, rfl, R, sb⟩
    have hlt : i < es.size := by
      rcases Nat.lt_or_ge i es.size with q | q
      · exact q
      · have : es.size - i = 0 := by omega
        rw [this] at hr
        cases hr
    have hr2 : x = i ∧ rest = List.range' (i + 1) (es.size - (i + 1)) := by
      have e : es.size - i = (es.size - (i + 1)) + 1 := by omega
      rw [e, List.range'_succ] at hr
      injection hr with h1 h2
      exact ⟨h1, h2⟩
    obtain ⟨rfl, hrest⟩ := hr2
    have ho2 : h'.get? d = some o := (sb.2 d hne).trans ho
    obtain ⟨kv, e1, e2⟩ := pairs_at hp x es[x] (by rw [Array.getElem?_toList]; exact Array.getElem?_eq_getElem hlt)
    have hxk : x < ks.length := by omega
    have e3 : kv.1 = Sum.inr ks[x] := by
      have q : (vs.map (·.1))[x]? = some kv.1 := by rw [List.getElem?_map, e1]; rfl
      rw [hks, List.getElem?_map, List.getElem?_eq_getElem hxk] at q
      exact (Option.some.inj q).symm
    rw [e3] at e2
    obtain ⟨tk, ek⟩ := Value.isStrOf_shape (x := ks[x]) e2
    obtain ⟨k', a1, a2⟩ := hk es[x] (Array.getElem_mem hlt)
    have ek' : k' = Sum.inr ks[x] := (mixKind P w).inj _ _ _ a1 e2
    have eh : es[x].hash = (SK P w).hash ks[x] := by
      rw [a2, ek']
      rfl
    refine wpAny_bind (wpAny_dictEntries (s := { s with heap := h' }) ho2 hd ?_)
    rw [Array.getElem?_eq_getElem hlt]
    dsimp only
    refine wpAny_bind (wpAny_holding ?_)
    rw [ek, eh]
    refine setS_put (s := { s with heap := h' }) R (by have : scanBound = 4096 := rfl; omega) fun h2 sb2 R2 => ?_
    have ho3 : h2.get? d = some o := (sb2.2 d hne).trans ho2
    have hj : ∀ j, decide (j ∈ ks.take (x + 1)) = (decide (j ∈ ks.take x) || decide (j = ks[x])) := fun j => by
      rw [List.take_add_one, List.getElem?_eq_getElem hxk]
      rw [Bool.eq_iff_iff]
      simp only [decide_eq_true_eq, Bool.or_eq_true, List.mem_append, Option.toList_some, List.mem_singleton]
    refine wpAny_bind (wpAny_dictEpoch (s := { s with heap := h2 }) ho3 hd ?_)
    simp only [bne_self_eq_false, Bool.false_eq_true, if_false]
    refine wpAny_pure ⟨x + 1, h2, (if decide (ks[x] ∈ ks.take x) = true then c else c + 1), hrest, hlt, by split <;> omega, rfl, R2.congr hj, sb.trans sb2⟩
  · rintro b s' ⟨i, h', c, hr, hi, hc, rfl, R, sb⟩
    have hin : i = es.size := by
      rcases Nat.lt_or_ge i es.size with q | q
      · have e : es.size - i = (es.size - (i + 1)) + 1 := by omega
        rw [e, List.range'_succ] at hr
        cases hr
      · omega
    subst hin
    rw [hlen, List.take_length] at R
    exact wpAny_pure (hQ h' c R (by omega) sb)
  · exact ⟨0, h1, 0, by simp, Nat.zero_le _, Nat.le_refl _, rfl, R1.congr fun j => by simp, sb1⟩
end
end Y
/-! text S3 -/
set_option Elab.async false
set_option linter.all false
set_option maxRecDepth 100000
namespace Y
open PySem PySem.Spec PyProof.Rows L2
section
variable {P : Program} {w : World} {A : Around} {E : Value → Shared → Prop} {s : Shared}
set_option maxRecDepth 100000 in
set_option maxHeartbeats 3200000 in
theorem call_set_dictT {l : Addr} {vs : List (Key × Value)} (ns : List Str) {Q : Value → Shared → Prop} (hm : (l == sysModules) = false) (hl : s.heap.DictOf (mixKind P w) l vs) (hks : vs.map (·.1) = ns.map Sum.inr) (hb : ns.length < 64)
    (h : ∀ (h' : Heap) (tk c : Nat), SetS w h' s.heap.objs.size (fun j => decide (j ∈ ns)) c → c ≤ ns.length → (∀ b o, s.heap.get? b = some o → h'.get? b = some o) → Q (.ref s.heap.objs.size) { s with heap := h', toks := tk }) :
    wpAny (model P w) A (call (.type "set") [.ref l]) Q E s := by
  obtain ⟨c, tl, hmro⟩ := F.called_set.mro
  have hmade := F.called_set.made
  have hsub := F.called_set.sub
  refine wpAny_call (codeAny_of_tree ?_)
  show wpAny _ _ (callAny (.type "set") _) _ _ _
  refine wpAny_pure ⟨Code.quiet_builtin _ (by decide +kernel), codeAny_builtin F.entry_type_call ?_⟩
  rw [Around.under_plain (weight_type_call_type "set" [.ref l] []) rfl]
  have h1 := F.called_set.notType
  have h2 := F.called_set.canCreate
  have hct := F.typeCall_set_1 (.ref l)
  repeat (any_goals (first | assumption | wp_step))

  refine codeAny_mono (L2.code_set_led1 (.ref l) (E := E) (Q₁ := fun obj s₁ => obj = .ref s.heap.objs.size ∧ s₁ = { s with heap := s.heap.push { cls := .type "set", dict := none, data := .set #[] 0 (.fresh 0 0 (!w.params.followText "set-order")) } }) ⟨rfl, rfl⟩) fun r s₁ hr => ?_
  cases r with
  | error e => exact hr
  | ok fl =>
    cases fl with
    | ret obj =>
      obtain ⟨rfl, rfl⟩ := hr
      have hS : (s.heap.push { cls := .type "set", dict := none, data := .set #[] 0 (.fresh 0 0 (!w.params.followText "set-order")) }).get? s.heap.objs.size = some { cls := .type "set", dict := none, data := .set #[] 0 (.fresh 0 0 (!w.params.followText "set-order")) } := Heap.get?_push_size _ rfl
      have hT : Shared.TypeIs { s with heap := s.heap.push { cls := .type "set", dict := none, data := .set #[] 0 (.fresh 0 0 (!w.params.followText "set-order")) } } (.ref s.heap.objs.size) "set" := ⟨_, hS, rfl⟩
      have hli := F.called_set.init.lookup
      have hbi := F.called_set.init.bind (.ref s.heap.objs.size)
      repeat (any_goals (first | assumption | wp_step))

      refine codeAny_mono (codeAny_call_builtin (R := wants (fun r s₂ => r = .none ∧ ∃ h' tk c, s₂ = { s with heap := h', toks := tk } ∧ SetS w h' s.heap.objs.size (fun j => decide (j ∈ ns)) c ∧ c ≤ ns.length ∧
          (∀ b o, s.heap.get? b = some o → h'.get? b = some o)) E) F.called_set.init.plain F.entry_set_init (check_set_init_1 hT ?_)) fun r₂ s₂ hr₂ => ?_
      · have hlS : l < s.heap.objs.size := let ⟨o, _, _, e, _⟩ := hl; Heap.lt_size e
        have hl1 : (s.heap.push { cls := .type "set", dict := none, data := .set #[] 0 (.fresh 0 0 (!w.params.followText "set-order")) }).DictOf (mixKind P w) l vs := hl.keep fun b o e => Heap.get?_push_of_some _ e
        have led : w.params.followText "set-order" = true ∨ (!w.params.followText "set-order") = true := by
          cases w.params.followText "set-order"
          · exact .inr rfl
          · exact .inl rfl
        unfold Builtin.«set.__init__» noKeywords
        generalize hUF : Builtin.Frozenset.updateFrom = UF
        wp_walk
        subst hUF
        refine from_dict (led := !w.params.followText "set-order") (Nat.ne_of_lt hlS) hm hl1 hks hb hS ⟨rfl, rfl, rfl⟩ rfl led fun h' c' hS' hc' sb => ?_
        show wpAny _ _ (ret Value.none) _ _ _
        refine wpAny_pure ⟨rfl, h', _, c', rfl, hS', hc', fun b o e => (sb.2 b (Nat.ne_of_lt (Heap.lt_size e))).trans (Heap.get?_push_of_some _ e)⟩
      · cases r₂ with
        | error e => exact hr₂
        | ok fl₂ =>
          cases fl₂ with
          | ret r =>
            obtain ⟨rfl, h', tk, c', rfl, hS', hc', hk'⟩ := hr₂
            repeat (any_goals (first | assumption | wp_step))
            exact h _ _ _ hS' hc' hk'
          | _ => exact hr₂.elim
    | _ => exact hr.elim

/-! ### sorted -/
theorem txts_of (w : World) : ∀ (l : List (Int × Value)), (∀ e ∈ l, GoodT w e) → StrsAre (l.map (·.2)) (l.map keyT)
  | [], _ => .nil
  | e :: l, h => by
    obtain ⟨k, tk, h1, _⟩ := h e (.head _)
    have ih := txts_of w l fun u hu => h u (List.mem_cons_of_mem _ hu)
    rw [List.map_cons, List.map_cons]
    have : keyT e = k := by
      unfold keyT
      rw [h1]
    rw [this, h1]
    exact .cons k tk ih
theorem txts_perm {us vs : List Value} {ks : List Str} (h : StrsAre vs ks) (p : us.Perm vs) : ∃ js : List Str, StrsAre us js ∧ js.Perm ks := by
  induction p generalizing ks with
  | nil => exact ⟨ks, h, .refl _⟩
  | cons x _ ih =>
    cases h with
    | cons k t hr =>
      obtain ⟨js, a, b⟩ := ih hr
      exact ⟨k :: js, .cons k t a, b.cons k⟩
  | swap x y l =>
    cases h with
    | cons k t hr =>
      cases hr with
      | cons k2 t2 hr2 => exact ⟨_, .cons k2 t2 (.cons k t hr2), .swap k k2 _⟩
  | trans _ _ ih1 ih2 =>
    obtain ⟨js, a, b⟩ := ih2 h
    obtain ⟨js2, c, d⟩ := ih1 a
    exact ⟨js2, c, d.trans b⟩
theorem sorted_setT {a : Addr} {S : Str → Bool} {n : Nat} {Q : Value → Shared → Prop} (R : SetS w s.heap a S n) (hh : A.handled = none) (h64 : n < 64)
    (hQ : ∀ s' p (out : Array Value) (c : Nat) (ns : List Str), (∀ b o, s.heap.get? b = some o → s'.heap.get? b = some o) → s'.gens = s.gens → s'.os = s.os → s.heap.objs.size ≤ p →
      s'.heap.get? p = some (seqObj "list" out c) → StrsAre out.toList ns → ns.Nodup → sortedS ns = true → (∀ k, k ∈ ns ↔ S k = true) → ns.length = n → Q (.ref p) s') :
    wpAny (model P w) A (call (.builtin "sorted") [.ref a]) Q E s := by
  obtain ⟨o, es, ep, t, ho, hex, hd, g, nd, hm, hb, hf, hn, hr, hl⟩ := R
  refine Calls.call_function_entry kind_sorted plain_sorted entry_sorted (args_sorted1 _) ?_
  unfold Builtin.«sorted»
  refine wpAny_bind (m := checkCount "sorted" 1 1 _) (wpAny_pure ?_)
  refine wpAny_bind (collect_set (A := A.in1) hh ⟨o, ho, hex.1, hd⟩ hf hb hr hl fun s1 vs k1 hz g1 o1 pm => ?_)
  have hvl : vs.length = n := by rw [pm.length_eq, List.length_map, Array.length_toList]; exact hn
  obtain ⟨ks, hS, hks⟩ := txts_perm (txts_of w es.toList g) pm
  refine wpAny_bind (wpAny_newList ?_ (by rw [hvl, sizeLine_eq]; omega))
  have hoL : (s1.heap.push (seqObj "list" vs.toArray 0)).get? s1.heap.objs.size = some (seqObj "list" vs.toArray 0) := Heap.get?_push_size _ rfl
  refine wpAny_bind (wpAny_holding (wpAny_call_entry slot_list_sort ⟨_, hoL, rfl⟩ entry_list_sort
    (list_sort_treeK strKind_oneLt (s := { s1 with heap := s1.heap.push (seqObj "list" vs.toArray 0) }) hoL hS.keysOf (fun v₁ v₂ rest e => keyKind_strs (by rw [← e]; exact hS)) (by rw [hvl]; exact h64) fun st' hp hs => ⟨_, rfl, ?_⟩)
    (args_list_sort _)))
  obtain ⟨ys, z1, z2, z3⟩ := sorted_out_str hS hp hs
  obtain ⟨c, hc⟩ := sortedHeap_at (vs := vs) (out := (arrOf st').map (·.2)) hoL
  have pn : ys.Perm (es.toList.map keyT) := z2.trans hks
  refine wpAny_pure ⟨_, rfl, hQ _ s1.heap.objs.size ((arrOf st').map (·.2)) c ys (fun b u e => ?_) g1 o1 hz hc z1 (pn.nodup_iff.mpr nd) z3 (fun k => by rw [pn.mem_iff, ← hm k]) ?_⟩
  · have q := k1 b u e
    have hlt := Heap.lt_size q
    show (sortedHeap (s1.heap.push (seqObj "list" vs.toArray 0)) s1.heap.objs.size vs ((arrOf st').map (·.2))).get? b = some u
    rw [sortedHeap_old (Nat.ne_of_lt hlt) (by rw [size_push']; exact Nat.lt_succ_of_lt hlt)]
    exact Heap.get?_push_of_some _ q
  · rw [pn.length_eq, List.length_map, Array.length_toList]
    exact hn
end
end Y
/-! text S4 -/
set_option Elab.async false
set_option linter.all false
set_option maxRecDepth 100000
namespace Y
open PySem PySem.Spec PyProof.Rows L2
/-! ### ascending texts -/
def Asc (l : List Str) : Prop := l.Pairwise fun a b => a.cps.toList < b.cps.toList
theorem rising_pair : ∀ {l : List Str} {p : Str}, risingS p l = true → (p :: l).Pairwise fun a b => a.cps.toList ≤ b.cps.toList
  | [], p, _ => List.pairwise_singleton ..
  | x :: r, p, h => by
    have h : (!ltCps x.cps.toList p.cps.toList && risingS x r) = true := h
    rw [Bool.and_eq_true] at h
    have ih := rising_pair h.2
    have h1 : p.cps.toList ≤ x.cps.toList := by
      have q := h.1
      rw [ltCps_eq, Bool.not_eq_true', decide_eq_false_iff_not] at q
      exact List.not_lt.mp q
    refine List.pairwise_cons.mpr ⟨fun y hy => ?_, ih⟩
    rcases List.mem_cons.mp hy with e | hy
    · rw [e]
      exact h1
    · exact List.le_trans h1 ((List.pairwise_cons.mp ih).1 y hy)
theorem str_eq {a b : Str} (h : a.cps.toList = b.cps.toList) : a = b := by
  cases a
  cases b
  exact congrArg Str.mk (Array.toList_inj.mp h)
theorem asc_of {l : List Str} (h : sortedS l = true) (nd : l.Nodup) : Asc l := by
  cases l with
  | nil => exact .nil
  | cons x r =>
    have h2 : (x :: r).Pairwise fun a b => a.cps.toList ≤ b.cps.toList := rising_pair h
    have := h2.and nd
    refine this.imp fun {a b} ⟨h, ne⟩ => ?_
    rcases Classical.em (a.cps.toList < b.cps.toList) with q | q
    · exact q
    · exact absurd (str_eq (List.le_antisymm h (List.not_lt.mp q))) ne
theorem asc_eq : ∀ {l m : List Str}, Asc l → Asc m → (∀ k, k ∈ l ↔ k ∈ m) → l = m
  | [], [], _, _, _ => rfl
  | [], y :: m, _, _, h => absurd ((h y).mpr (.head _)) (by simp)
  | x :: l, [], _, _, h => absurd ((h x).mp (.head _)) (by simp)
  | x :: l, y :: m, ha, hb, h => by
    obtain ⟨a1, a2⟩ := List.pairwise_cons.mp ha
    obtain ⟨b1, b2⟩ := List.pairwise_cons.mp hb
    have e : x = y := by
      rcases List.mem_cons.mp ((h x).mp (.head _)) with q | q
      · exact q
      · rcases List.mem_cons.mp ((h y).mpr (.head _)) with q2 | q2
        · exact q2.symm
        · exact absurd (List.lt_trans (b1 x q) (a1 y q2)) (List.lt_irrefl _)
    subst e
    rw [asc_eq a2 b2 fun k => ?_]
    have hk := h k
    rw [List.mem_cons, List.mem_cons] at hk
    constructor
    · intro q
      rcases hk.mp (.inr q) with e | e
      · exact absurd (e ▸ a1 k q) (List.lt_irrefl _)
      · exact e
    · intro q
      rcases hk.mpr (.inr q) with e | e
      · exact absurd (e ▸ b1 k q) (List.lt_irrefl _)
      · exact e
def insS (k : Str) : List Str → List Str
  | [] => [k]
  | x :: l => if k = x then x :: l else if k.cps.toList < x.cps.toList then k :: x :: l else x :: insS k l
def srt (ks : List Str) : List Str := ks.foldr insS []
theorem insS_mem (k j : Str) : ∀ l, j ∈ insS k l ↔ j = k ∨ j ∈ l
  | [] => by simp [insS]
  | x :: l => by
    unfold insS
    split
    · rename_i e
      subst e
      simp
    · split
      · simp
      · rw [List.mem_cons, insS_mem k j l, List.mem_cons]
        exact ⟨fun h => by rcases h with h | h | h <;> simp [h], fun h => by rcases h with h | h | h <;> simp [h]⟩
theorem insS_asc (k : Str) : ∀ {l}, Asc l → Asc (insS k l)
  | [], _ => List.pairwise_singleton ..
  | x :: l, h => by
    obtain ⟨h1, h2⟩ := List.pairwise_cons.mp h
    unfold insS
    split
    · exact h
    · rename_i ne
      split
      · rename_i lt
        refine List.pairwise_cons.mpr ⟨fun y hy => ?_, h⟩
        rcases List.mem_cons.mp hy with e | hy
        · rw [e]
          exact lt
        · exact List.lt_trans lt (h1 y hy)
      · rename_i nlt
        refine List.pairwise_cons.mpr ⟨fun y hy => ?_, insS_asc k h2⟩
        rcases (insS_mem k y l).mp hy with e | hy
        · rw [e]
          rcases Classical.em (x.cps.toList < k.cps.toList) with q | q
          · exact q
          · exact absurd (str_eq (List.le_antisymm (List.not_lt.mp q) (List.not_lt.mp nlt))) ne
        · exact h1 y hy
theorem srt_mem (ks : List Str) (j : Str) : j ∈ srt ks ↔ j ∈ ks := by
  induction ks with
  | nil => simp [srt]
  | cons k ks ih =>
    show j ∈ insS k (srt ks) ↔ _
    rw [insS_mem, ih, List.mem_cons]
theorem srt_asc (ks : List Str) : Asc (srt ks) := by
  induction ks with
  | nil => exact .nil
  | cons k ks ih => exact insS_asc k ih
theorem asc_nodup {l : List Str} (h : Asc l) : l.Nodup := h.imp fun {a b} h e => by
  subst e
  exact List.lt_irrefl _ h
theorem srt_nodup (ks : List Str) : (srt ks).Nodup := asc_nodup (srt_asc ks)
theorem insS_len (k : Str) : ∀ l, (insS k l).length ≤ l.length + 1
  | [] => Nat.le_refl _
  | x :: l => by
    have := insS_len k l
    unfold insS
    split
    · simp
    · split
      · simp
      · simp only [List.length_cons]
        omega
theorem srt_len (ks : List Str) : (srt ks).length ≤ ks.length := by
  induction ks with
  | nil => exact Nat.le_refl _
  | cons k ks ih =>
    have := insS_len k (srt ks)
    show (insS k (srt ks)).length ≤ _
    simp only [List.length_cons]
    omega
/-- sorted(set(e)), e a list, a tuple or a dict of texts -/
def tSS (K : PySem.W.Frag) (ta : TE) : TE := fun σ H Q => ta σ H fun x H1 => ∃ (l : Addr) (xs : List Str), x = .ref l ∧ xs.length < 64 ∧ (SqL K H1 l (xs.map V.str) ∨ ∃ kvs, Rd H1 l (.dK kvs) ∧ kvs.map (·.1) = xs.map Sum.inr) ∧
  ∀ (p : Addr), H1 p = none → Q (.ref p) (upd H1 p (.lst ((srt xs).map V.str)))
theorem vals_txts : ∀ {us : List Value} {ns : List Str}, StrsAre us ns → Vals (ns.map V.str) us
  | _, _, .nil => .nil
  | _, _, .cons k t hr => .cons ⟨t, rfl⟩ (vals_txts hr)
section
variable {X : Cx}
theorem sort_end {pins : List (Addr × Obj)} {σ : St} {H : Hp} {s : Shared} {Q : VK} {a : Addr} {xs : List Str} {c : Nat} (hc : X.calm = true) (I : Inv X pins σ H s) (R : SetS X.w s.heap a (fun j => decide (j ∈ xs)) c) (h64 : c < 64)
    (q : ∀ (p : Addr), H p = none → Q (.ref p) (upd H p (.lst ((srt xs).map V.str)))) : wpAny (model X.prog X.w) X.A (call (.builtin "sorted") [.ref a]) (EP X pins σ Q) X.xe s := by
  refine sorted_setT R (I.ok.hd hc) h64 fun s' p out c ns k g o hp hg hi nd hs hm hl => ?_
  have hlen : (ns.map V.str).length ≤ sizeLine := by
    rw [List.length_map, hl, sizeLine_eq]
    omega
  have hn : H p = none := I.hok.fresh hp
  have J : Inv X pins σ (upd H p (.lst (ns.map V.str))) { s with heap := s'.heap, gens := s'.gens, drawn := s'.drawn, toks := s'.toks } :=
    I.call (ch := []) (Un.laid k hp hn) (I.hok.laid k hp ⟨hlen, out.toList, c, vals_txts hi, hg⟩) (by rw [g]; exact I.bare) (fun _ z => nomatch z)
  have e : s' = { s with heap := s'.heap, gens := s'.gens, drawn := s'.drawn, toks := s'.toks } := by
    cases s'
    cases s
    cases o
    rfl
  rw [e]
  have ey : ns = srt xs := asc_eq (asc_of hs nd) (srt_asc xs) fun k => by rw [hm k, decide_eq_true_eq, srt_mem]
  subst ey
  exact ⟨.ref p, _, J, rfl, q p hn⟩
theorem pe_sortset {a : Expr} {ta : TE} {p p2 q pos : Pos} (hc : X.calm = true) (hg : Gl X "sorted") (hm : X.mg "sorted" = none) (hg2 : Gl X "set") (hm2 : X.mg "set" = none) (ha : PE X a ta)
    (na : starEach [a] X.env = (false, eval a X.env) :: starEach [] X.env := by rfl) : PE X (.Call (.Name "sorted" p) [.Call (.Name "set" p2) [a] [] q] [] pos) (tSS X.K ta) := by
  refine ⟨fun pins s σ H Q I h => ?_⟩
  refine Call_ (ld_blt I hg hm boot_sorted ?_)
  refine PyProof.Rows.callWith_builtin1 (PyProof.Rows.args_cons ?_ rfl) rfl rfl
  refine Call_ (ld_blt I hg2 hm2 boot_set ?_)
  refine PyProof.Rows.callWith_type1 (PyProof.Rows.args_cons (thn (ha.run pins s σ H _ I h) fun v s1 ⟨x, H1, I1, r1, q1⟩ => PyProof.Rows.args_nil ?_) na) na rfl
  obtain ⟨l, xs, rfl, h64, hq, q1⟩ := q1
  cases r1
  rcases hq with hq | ⟨kvs, hd, hk⟩
  · obtain ⟨its, r, pl, hz⟩ := I1.list hq
    refine call_set_listT xs (I1.ok.hd hc) pl.isList (by simpa using strsAre_of r) (by have : scanBound = 4096 := rfl; omega) fun h' tk c R hcx hk' => ?_
    refine PyProof.Rows.args_nil ?_
    exact sort_end hc (I1.kept hk') R (by omega) q1
  · obtain ⟨z, lo, vs, rel, dd⟩ := dk_rd I1.hok hd
    refine call_set_dictT xs lo dd (rel.keys.symm.trans hk) h64 fun h' tk c R hcx hk' => ?_
    refine PyProof.Rows.args_nil ?_
    exact sort_end hc (I1.kept hk') R (by omega) q1
end
/-- lists, tuples of texts -/
abbrev TL (ks : List Str) : VP := Ls (ks.map fun k => Vl (.str k))
abbrev TT' (ks : List Str) : VP := Tp (ks.map fun k => Vl (.str k))
theorem Sub.dk {L : List Addr} {H0 H : Hp} (s : Sub L H0 H) {a : Addr} {kvs : List (Key × V)} (h : H0 a = some (.dK kvs)) : Rd H a (.dK kvs) := by
  rcases s.at_ a _ h with ⟨_, z⟩ | ⟨_, o, _, _, z⟩
  · exact .inl z
  · exact .inr ⟨o, z⟩
theorem tl_strs {H : Hp} : ∀ {vs : List V} {ks : List Str}, AllP H vs (ks.map fun k => Vl (.str k)) → vs = ks.map V.str
  | [], [], _ => rfl
  | [], _ :: _, h => h.elim
  | _ :: _, [], h => h.elim
  | v :: vs, b :: bs, h => by
    have e : v = .str b := h.1
    rw [List.map_cons, e, tl_strs (vs := vs) (ks := bs) h.2]
theorem strs_tl {H : Hp} : ∀ (ks : List Str), AllP H (ks.map V.str) (ks.map fun k => Vl (.str k))
  | [] => trivial
  | b :: bs => ⟨rfl, strs_tl bs⟩
section
variable {X : Cx} {L : List Addr} {e a b c tg iter : Expr} {G G1 G2 : Gam} {M M1 M2 M3 M' Mw Mf : Ml} {P P1 P2 P3 P' : VP} {pos : Pos} {i j : Nat} {x : Str}
theorem xe_sortset {p p2 q pos : Pos} {ks : List Str} (ha : XE X L a G M P M1) (hP : ∀ v H0, P.p v H0 → (TL ks).p v H0 ∨ ∃ d, (Dc d).p v H0 ∧ d.map (·.1) = ks) (h64 : ks.length < 64) (hm : X.mg "sorted" = none) (hm2 : X.mg "set" = none) (hc : X.calm = true := by rfl) (hg : Gl X "sorted" := by rfl) (hg2 : Gl X "set" := by rfl)
    (na : starEach [a] X.env = (false, eval a X.env) :: starEach [] X.env := by rfl) : XE X L (.Call (.Name "sorted" p) [.Call (.Name "set" p2) [a] [] q] [] pos) G M (TL (srt ks)) M1 :=
  .of (pe_sortset hc hg hm hg2 hm2 pW na) ha.ad fun σ H H0 s l m Q k => ha.then_ s l m fun v H1 H01 g1 s1 l1 m1 p1 => by
    have fin : ∀ (p : Addr), H1 p = none → Q (.ref p) (upd H1 p (.lst ((srt ks).map V.str))) := fun p hp => by
      have g : Grow L [] H01 H1 (upd H01 p (.lst ((srt ks).map V.str))) (upd H1 p (.lst ((srt ks).map V.str))) := .alloc s1 hp
      exact k _ _ _ (g1.tr g.nil) (m1.grow0 g) ⟨p, _, rfl, upd_same, strs_tl _⟩
    rcases hP v H01 p1 with ⟨l, vs, rfl, hl, hv⟩ | ⟨d, ⟨l, rfl, hl⟩, e⟩
    · exact ⟨l, ks, rfl, h64, .inl (by rw [← tl_strs hv]; exact SqL.of (s1.lst hl)), fin⟩
    · refine ⟨l, ks, rfl, h64, .inr ⟨_, s1.dk hl, ?_⟩, fin⟩
      unfold ofD
      rw [← e, List.map_map, List.map_map]
      rfl
end
end Y
/-! text S5 -/
set_option Elab.async false
set_option linter.all false
set_option maxRecDepth 100000
namespace Y
open PySem PySem.Spec PyProof.Rows L2
/-! ### dicts of ints under texts, in plain lists -/
abbrev DD := List (Str × Int)
def gv (d : DD) (k : Str) : Option Int := (d.find? fun q => decide (q.1 = k)).map (·.2)
def gt (d : DD) (k : Str) : Int := (gv d k).getD 0
def put (d : DD) (k : Str) (v : Int) : DD := if (d.any fun q => decide (q.1 = k)) = true then d.map (fun q => if q.1 = k then (q.1, v) else q) else d ++ [(k, v)]
def ks (d : DD) : List Str := d.map (·.1)
theorem ofD_put (d : DD) (k : Str) (v : Int) : ofD (put d k v) = putK (ofD d) (Sum.inr k) (.int v) := by
  have ea : ((ofD d).any fun kv => decide (kv.1 = (Sum.inr k : Key))) = (d.any fun q => decide (q.1 = k)) := by
    unfold ofD
    rw [List.any_map]
    congr 1
    funext q
    simp
  unfold put putK
  rw [ea]
  by_cases h : (d.any fun q => decide (q.1 = k)) = true
  · rw [if_pos h, if_pos h]
    unfold ofD
    rw [List.map_map, List.map_map]
    refine List.map_congr_left fun q _ => ?_
    by_cases e : q.1 = k
    · simp [e]
    · simp [e]
  · rw [if_neg h, if_neg h]
    unfold ofD
    rw [List.map_append]
    rfl
theorem valV_of (d : DD) (k : Str) : valV (ofD d) (Sum.inr k) = (gv d k).map V.int := by
  unfold valV gv ofD
  induction d with
  | nil => rfl
  | cons q d ih =>
    rw [List.map_cons, List.find?_cons, List.find?_cons]
    by_cases e : q.1 = k
    · simp [e]
    · have e1 : decide ((Sum.inr q.1 : Key) = Sum.inr k) = false := decide_eq_false fun z => e (Sum.inr.inj z)
      have e2 : decide (q.1 = k) = false := decide_eq_false e
      rw [e2]
      show Option.map _ (match decide ((Sum.inr q.1 : Key) = Sum.inr k) with | true => _ | false => _) = _
      rw [e1]
      exact ih
theorem gv_nil (k : Str) : gv [] k = none := rfl
theorem gv_cons (q : Str × Int) (d : DD) (k : Str) : gv (q :: d) k = if q.1 = k then some q.2 else gv d k := by
  unfold gv
  rw [List.find?_cons]
  by_cases e : q.1 = k
  · simp [e]
  · simp [e]
theorem gv_put (d : DD) (k j : Str) (v : Int) : gv (put d k v) j = if j = k then some v else gv d j := by
  have h := valV_put (ofD d) (Sum.inr k : Key) (Sum.inr j) (.int v)
  rw [← ofD_put, valV_of, valV_of] at h
  by_cases e : j = k
  · rw [if_pos (by rw [e])] at h
    rw [if_pos e]
    cases q : gv (put d k v) j with
    | none =>
      rw [q] at h
      cases h
    | some w =>
      rw [q] at h
      exact congrArg some (V.int.inj (Option.some.inj h))
  · rw [if_neg (fun z => e (Sum.inr.inj z))] at h
    rw [if_neg e]
    cases q : gv (put d k v) j <;> cases q2 : gv d j <;> rw [q, q2] at h
    · cases h
    · cases h
    · exact congrArg some (V.int.inj (Option.some.inj h))
theorem gt_put (d : DD) (k j : Str) (v : Int) : gt (put d k v) j = if j = k then v else gt d j := by
  unfold gt
  rw [gv_put]
  split <;> rfl
theorem gv_mem {d : DD} {k : Str} : k ∈ ks d ↔ gv d k ≠ none := by
  unfold ks
  induction d with
  | nil => simp [gv_nil]
  | cons q d ih =>
    rw [gv_cons, List.map_cons, List.mem_cons, ih]
    by_cases e : q.1 = k
    · simp [e]
    · have ne : ¬ k = q.1 := fun z => e z.symm
      simp [e, ne]
theorem gt_none {d : DD} {k : Str} (h : k ∉ ks d) : gt d k = 0 := by
  have : gv d k = none := Classical.byContradiction fun q => h (gv_mem.mpr q)
  unfold gt
  rw [this]
  rfl
theorem ks_put (d : DD) (k : Str) (v : Int) : ks (put d k v) = if k ∈ ks d then ks d else ks d ++ [k] := by
  unfold put
  have ea : (d.any fun q => decide (q.1 = k)) = true ↔ k ∈ ks d := by
    unfold ks
    rw [List.any_eq_true, List.mem_map]
    constructor
    · rintro ⟨q, h1, h2⟩
      exact ⟨q, h1, of_decide_eq_true h2⟩
    · rintro ⟨q, h1, h2⟩
      exact ⟨q, h1, decide_eq_true h2⟩
  by_cases h : k ∈ ks d
  · rw [if_pos (ea.mpr h), if_pos h]
    unfold ks
    rw [List.map_map]
    refine List.map_congr_left fun q _ => ?_
    by_cases e : q.1 = k
    · simp [e]
    · simp [e]
  · rw [if_neg (fun z => h (ea.mp z)), if_neg h]
    unfold ks
    rw [List.map_append]
    rfl
theorem nodup_put {d : DD} (h : (ks d).Nodup) (k : Str) (v : Int) : (ks (put d k v)).Nodup := by
  rw [ks_put]
  split
  · exact h
  · rename_i hn
    refine List.nodup_append.mpr ⟨h, by simp, fun x hx y hy e => ?_⟩
    have hy : y = k := by simpa using hy
    subst hy e
    exact hn hx
theorem len_put (d : DD) (k : Str) (v : Int) : (put d k v).length ≤ d.length + 1 := by
  unfold put
  split
  · rw [List.length_map]
    omega
  · simp
/-- what a dict comprehension, dict(pairs) build -/
def mk {α : Type} (kf : α → Str) (vf : α → Int) (xs : List α) : DD := xs.foldl (fun d x => put d (kf x) (vf x)) []
theorem mk_nodup {α : Type} (kf : α → Str) (vf : α → Int) (xs : List α) : (ks (mk kf vf xs)).Nodup := by
  unfold mk
  have : ∀ (xs : List α) (d : DD), (ks d).Nodup → (ks (xs.foldl (fun d x => put d (kf x) (vf x)) d)).Nodup := by
    intro xs
    induction xs with
    | nil => exact fun _ h => h
    | cons x xs ih => exact fun d h => ih _ (nodup_put h _ _)
  exact this xs [] List.nodup_nil
theorem mk_len {α : Type} (kf : α → Str) (vf : α → Int) (xs : List α) : (mk kf vf xs).length ≤ xs.length := by
  unfold mk
  have : ∀ (xs : List α) (d : DD), (xs.foldl (fun d x => put d (kf x) (vf x)) d).length ≤ d.length + xs.length := by
    intro xs
    induction xs with
    | nil => exact fun _ => Nat.le_refl _
    | cons x xs ih =>
      intro d
      have h1 := ih (put d (kf x) (vf x))
      have h2 := len_put d (kf x) (vf x)
      rw [List.foldl_cons, List.length_cons]
      omega
  simpa using this xs []
theorem mk_take {α : Type} (kf : α → Str) (vf : α → Int) (xs : List α) (x : α) : mk kf vf (xs ++ [x]) = put (mk kf vf xs) (kf x) (vf x) := by
  unfold mk
  rw [List.foldl_append]
  rfl
/-- where the value is the key's -/
theorem mk_gv {α : Type} (kf : α → Str) (vf : α → Int) (f : Str → Int) (xs : List α) (h : ∀ x ∈ xs, vf x = f (kf x)) (k : Str) : gv (mk kf vf xs) k = if k ∈ xs.map kf then some (f k) else none := by
  unfold mk
  have : ∀ (xs : List α) (d : DD), (∀ x ∈ xs, vf x = f (kf x)) → gv (xs.foldl (fun d x => put d (kf x) (vf x)) d) k = if k ∈ xs.map kf then some (f k) else gv d k := by
    intro xs
    induction xs with
    | nil => exact fun d _ => rfl
    | cons x xs ih =>
      intro d h
      rw [List.foldl_cons, ih _ fun y hy => h y (List.mem_cons_of_mem _ hy), gv_put, List.map_cons]
      by_cases e : k = kf x
      · rw [if_pos e]
        by_cases e2 : k ∈ xs.map kf
        · rw [if_pos e2, if_pos (List.mem_cons_of_mem _ e2)]
        · rw [if_neg e2, if_pos (by rw [e]; exact .head _), h x (.head _), e]
      · rw [if_neg e]
        by_cases e2 : k ∈ xs.map kf
        · rw [if_pos e2, if_pos (List.mem_cons_of_mem _ e2)]
        · rw [if_neg e2, if_neg (fun z => (List.mem_cons.mp z).elim e e2)]
  rw [this xs [] h]
  rfl
theorem mk_ks {α : Type} (kf : α → Str) (vf : α → Int) (xs : List α) (k : Str) : k ∈ ks (mk kf vf xs) ↔ k ∈ xs.map kf := by
  unfold mk
  have : ∀ (xs : List α) (d : DD), k ∈ ks (xs.foldl (fun d x => put d (kf x) (vf x)) d) ↔ k ∈ ks d ∨ k ∈ xs.map kf := by
    intro xs
    induction xs with
    | nil => exact fun d => by simp
    | cons x xs ih =>
      intro d
      rw [List.foldl_cons, ih, ks_put, List.map_cons, List.mem_cons]
      split
      · rename_i hm
        constructor
        · rintro (z | z)
          · exact .inl z
          · exact .inr (.inr z)
        · rintro (z | z | z)
          · exact .inl z
          · exact .inl (by rw [z]; exact hm)
          · exact .inr z
      · rw [List.mem_append, List.mem_singleton]
        constructor
        · rintro ((z | z) | z)
          · exact .inl z
          · exact .inr (.inl z)
          · exact .inr (.inr z)
        · rintro (z | z | z)
          · exact .inl (.inl z)
          · exact .inl (.inr z)
          · exact .inr z
  rw [this xs []]
  simp [ks]
/-- a dict at d -/
def Dca (d : Addr) (kvs : DD) : VP := ⟨fun v H => v = .ref d ∧ H d = some (.dK (ofD kvs)), fun _ _ _ e ⟨h1, h2⟩ => ⟨h1, e _ _ h2⟩⟩
theorem dc_ex {kvs : DD} : ∀ v H, (Dc kvs).p v H → (ExP (fun _ : Addr => True) fun d => Dca d kvs).p v H := fun v H ⟨a, h1, h2⟩ => ⟨a, trivial, h1, h2⟩
theorem dca_dc {kvs : DD} {d : Addr} : ∀ v H, (Dca d kvs).p v H → (Dc kvs).p v H := fun v H ⟨h1, h2⟩ => ⟨d, h1, h2⟩
section
variable {X : Cx} {L : List Addr} {e a b c tg iter : Expr} {G G1 G2 : Gam} {M M1 M2 M3 M' Mw Mf : Ml} {P P1 P2 P3 P' : VP} {pos : Pos} {i j : Nat} {x : Str} {B : Bs} {D : Ends} {rest : List Stmt} {st : Stmt}
theorem sl_open {α : Type} {f : α → Prop} {Q : α → VP} {σ : St} {H0 : Hp} (l : SL G σ H0) (h : G[i]? = some (some (ExP f Q))) : ∃ x, f x ∧ SL (G.set i (some (Q x))) σ H0 := by
  obtain ⟨v, e, y, fy, p⟩ := l.2 i _ h
  refine ⟨y, fy, ?_⟩
  have q := SL.set (i := i) (v := v) (P := Q y) l p
  have eq : σ.set i (some v) = σ := by
    apply List.ext_getElem?
    intro j
    rw [List.getElem?_set]
    split
    · rename_i ej
      subst ej
      split
      · exact e.symm
      · rename_i hl
        have : σ[i]? = none := List.getElem?_eq_none_iff.mpr (by omega)
        rw [this] at e
        cases e
    · rfl
  rw [eq] at q
  exact q
theorem sl_imp {Q : VP} {σ : St} {H0 : Hp} (l : SL G σ H0) (h : G[i]? = some (some P)) (hw : ∀ v H, P.p v H → Q.p v H) : SL (G.set i (some Q)) σ H0 := by
  refine l.weak (List.length_set ..) fun j R q => ?_
  rw [List.getElem?_set] at q
  split at q
  · rename_i ej
    subst ej
    split at q
    · have : Q = R := Option.some.inj (Option.some.inj q)
      subst this
      exact ⟨P, h, fun v => hw v H0⟩
    · cases q
  · exact ⟨R, q, fun _ z => z⟩
/-- a slot's choice is opened, in an expression -/
theorem xe_open {α : Type} {f : α → Prop} {Q : α → VP} (h : G[i]? = some (some P1)) (hw : ∀ v H, P1.p v H → (ExP f Q).p v H) (ad : ads M' = ads M) (k : ∀ x, f x → XE X L e (G.set i (some (Q x))) M P M') : XE X L e G M P M' := ⟨ad, fun σ H H0 s l m R q => by
  have hlt : i < G.length := (List.getElem?_eq_some_iff.mp h).1
  have l1 := sl_imp l h hw
  obtain ⟨x, fx, l2⟩ := sl_open (i := i) (f := f) (Q := Q) l1 (by rw [List.getElem?_set_self hlt])
  rw [List.set_set] at l2
  exact (k x fx).run σ H H0 s l2 m R q⟩
theorem xs_openW {α : Type} {f : α → Prop} {Q : α → VP} {sts : List Stmt} (h : G[i]? = some (some P1)) (hw : ∀ v H, P1.p v H → (ExP f Q).p v H) (k : ∀ x, f x → XS X L sts B (G.set i (some (Q x))) M D) : XS X L sts B G M D := ⟨fun σ H ⟨H0, g, l, m, fr⟩ => by
  have hlt : i < G.length := (List.getElem?_eq_some_iff.mp h).1
  have l1 := sl_imp l h hw
  obtain ⟨x, fx, l2⟩ := sl_open (i := i) (f := f) (Q := Q) l1 (by rw [List.getElem?_set_self hlt])
  rw [List.set_set] at l2
  exact (k x fx).run σ H ⟨H0, g, l2, m, fr⟩⟩
/-! ### a dict locked while it is walked -/
theorem lock_sub {H0 H : Hp} {d : Addr} {kvs : List (Key × V)} {od : Obj} (s : Sub L H0 H) (h : H0 d = some (.dK kvs)) (hL : d ∉ L) : Sub (d :: L) H0 (upd H d (.frz od (.dK kvs))) := by
  refine ⟨fun a u e => ?_, fun a ha => ?_⟩
  · by_cases z : a = d
    · subst z
      rw [h] at e
      cases e
      exact .inr ⟨.head _, od, kvs, rfl, upd_same⟩
    · rw [upd_ne z]
      rcases s.at_ a u e with ⟨n, q⟩ | ⟨m, q⟩
      · exact .inl ⟨fun y => (List.mem_cons.mp y).elim z n, q⟩
      · exact .inr ⟨List.mem_cons_of_mem _ m, q⟩
  · rcases List.mem_cons.mp ha with z | z
    · rw [z, h]
      simp
    · exact s.lk a z
theorem lock_mo {H0 H : Hp} {d : Addr} {u w : HO} (m : MO M H0 H) (h : H0 d = some u) : MO M H0 (upd H d w) := ⟨m.1, fun c hc => by
  obtain ⟨h1, o, h2, h3⟩ := m.2 c hc
  exact ⟨h1, o, by rw [upd_ne (fun z => by rw [z, h] at h1; cases h1)]; exact h2, h3⟩⟩
theorem unlock_grow {A : List Addr} {H0 H H0' H' : Hp} {d : Addr} {kvs : List (Key × V)} {od : Obj} (s : Sub L H0 H) (h : H0 d = some (.dK kvs)) (hL : d ∉ L) (g : Grow (d :: L) A H0 (upd H d (.frz od (.dK kvs))) H0' H') : Grow L A H0 H H0' (upd H' d (.dK kvs)) := by
  have hH : H d = some (.dK kvs) := s.ex h hL
  have h' : H0' d = some (.dK kvs) := g.pure _ _ h
  refine ⟨g.pure, ⟨fun a u e => ?_, fun a ha => g.sub.lk a (List.mem_cons_of_mem _ ha)⟩, fun b o e nb => ?_, fun b nb => ?_, fun b nb => ?_⟩
  · by_cases z : a = d
    · subst z
      rw [h'] at e
      cases e
      exact .inl ⟨hL, upd_same⟩
    · rw [upd_ne z]
      rcases g.sub.at_ a u e with ⟨n, q⟩ | ⟨m, q⟩
      · exact .inl ⟨fun y => n (List.mem_cons_of_mem _ y), q⟩
      · exact .inr ⟨(List.mem_cons.mp m).resolve_left z, q⟩
  · by_cases z : b = d
    · subst z
      rw [hH] at e
      cases e
      exact upd_same
    · rw [upd_ne z]
      exact g.keep b o (by rw [upd_ne z]; exact e) nb
  · rcases g.new b nb with q | q
    · exact .inl q
    · by_cases z : b = d
      · rw [z, upd_same] at q
        cases q
      · rw [upd_ne z] at q
        exact .inr q
  · by_cases z : b = d
    · rw [z, upd_same]
      simp
    · rw [upd_ne z]
      exact g.live b (by rw [upd_ne z]; exact nb)
theorem xe_lock {d : Addr} {kvs : DD} (hd : ∀ σ H0, SL G σ H0 → H0 d = some (.dK (ofD kvs))) (hL : d ∉ L) (ht : XE X (d :: L) e G M P M') : XE X L e G M P M' := ⟨ht.ad, fun σ H H0 s l m Q k => by
  have h := hd σ H0 l
  have hH := s.ex h hL
  refine fun pins sh I => (pe_lock (pW (X := X) (e := e))).run pins sh σ H Q I ⟨d, _, hH, trivial, fun od => ?_⟩
  refine ht.run σ _ H0 (lock_sub s h hL) l (lock_mo m h) _ fun v H' H0' g m' p => ⟨?_, ?_⟩
  · exact g.keep d _ upd_same fun z => by
      have := (m.at_ z).1
      rw [h] at this
      cases this
  · exact k v _ H0' (unlock_grow s h hL g) (lock_mo m' (g.pure _ _ h)) p⟩
/-- one statement -/
def X1 (X : Cx) (L : List Addr) (st : Stmt) (B : Bs) (G : Gam) (M : Ml) (D : Ends) : Prop := ∀ σ H, stA L B G M σ H → tW1 X st D σ H
theorem x1_for {ι : Type} {Ps : List VP} {body : List Stmt} (hp : PassesOwn (model X.prog X.w) X.A X.env X.xe) (hc : X.calm = true) (hi : XI X L tg iter G M Ps M1 Mw) (f : Nat → ι → Prop) (Gs : Nat → ι → Gam) (Ms : Nat → ι → Ml)
    (h0 : ∃ a, f 0 a ∧ (∀ σ H, SL G σ H → SL (Gs 0 a) σ H) ∧ ads (Ms 0 a) = ads M1 ∧ ∀ H0 H, MO M1 H0 H → MO (Ms 0 a) H0 H)
    (hm : ∀ i a, f i a → ∀ H0 H, MO (Ms i a) H0 H → MO Mw H0 H)
    (hs : ∀ i a P B', Bl L B' B → Ps[i]? = some P → f i a → ∃ js G2, XG1 X L tg js P (Gs i a) G2 ∧ XS X L body B' G2 (Ms i a) { D with nx := aft L B' f Gs Ms (i + 1), ct := aft L B' f Gs Ms (i + 1), bk := D.nx })
    (hd : ∀ a, f Ps.length a → ∀ σ H, stA L B (Gs Ps.length a) (Ms Ps.length a) σ H → D.nx σ H)
    (hfs : ∀ x, foldedSetIterable iter X.env x = pure x := by intro _; rfl) : X1 X L (.For tg iter body [] pos) B G M D := by
  obtain ⟨wi, hwi, hrun⟩ := hi.run
  intro σ H hst
  obtain ⟨H0, g, l, m, fr⟩ := hst
  intro pins sh I
  refine (ps_for hp hc hwi pWg pWs hfs).run pins sh σ H D I ?_
  refine hrun σ H H0 g.sub l m _ fun J H1 H01 Gd Y g1 m1 w hG hY => ?_
  have gB : Grow L B.A B.h0 B.h H01 H1 := g.trans g1 fr
  have bl : Bl L ⟨H01, H1, ads M1⟩ B := ⟨fun Hx H => fun gx => gB.trans gx fun b hb => by rw [hi.ad] at hb; exact fr b hb, fun b hb => by
    rcases hb with hb | hb
    · have hb : b ∈ ads M1 := hb
      rw [hi.ad] at hb
      exact fr b hb
    · cases q : B.h b with
      | none => exact .inr rfl
      | some o => exact absurd hb (gB.live b (by rw [q]; simp))⟩
  refine for_it w (fun i σ' H' => aft L ⟨H01, H1, ads M1⟩ f Gs Ms i σ' H') ?_ ?_ ?_ ?_
  · obtain ⟨a, fa, hg, ha, hmo⟩ := h0
    exact ⟨a, fa, H01, .refl g1.sub, hg _ _ (l.mono g1.pure), hmo _ _ m1, fun b hb => .inl (by rw [ha] at hb; exact hb)⟩
  · rintro i σ' H' _ ⟨a, fa, H0', g', l', m', f'⟩
    exact hG H' H0' g' (hm i a fa _ _ m')
  · rintro i z σ' H' H'' hi' ⟨a, fa, H0', g', l', m', f'⟩ hy
    obtain ⟨H0y, P, gy, hP, pz⟩ := hY i H' z H'' H0' hi' g' hy
    obtain ⟨js, G2, hg2, hb⟩ := hs i a P _ bl hP fa
    refine hg2.run z σ' H'' H0y gy.sub (l'.mono gy.pure) pz _ fun σ2 l2 _ _ => ?_
    exact hb.run σ2 H'' ⟨H0y, g'.tr gy.nil, l2, m'.grow0 gy, f'⟩
  · rintro σ' H' ⟨a, fa, hst⟩
    exact hd a fa σ' H' (stA.lift hst bl)
/-- a statement over a locked dict -/
theorem xs_lock1 {ι : Type} {d : Addr} {kvs : DD} {PR : VP} {MR : Ml} (hd : ∀ σ H0, SL G σ H0 → H0 d = some (.dK (ofD kvs))) (hL : d ∉ L) (f : ι → Prop) (Gs : ι → Gam) (Ms : ι → Ml)
    (h1 : ∀ B', X1 X (d :: L) st B' G M ⟨fun σ H => ∃ a, f a ∧ stA (d :: L) B' (Gs a) (Ms a) σ H, fun v H => rtA (d :: L) B' PR MR v H, fun _ _ => False, fun _ _ => False⟩)
    (hrt : ∀ v H, rtA L B PR MR v H → D.rt v H) (hr : ∀ a, f a → XS X L rest B (Gs a) (Ms a) D) : XS X L (st :: rest) B G M D := by
  refine xs_of (ps_lock pW1) fun σ H ⟨H0, g, l, m, fr⟩ => ?_
  have h := hd σ H0 l
  have hH := g.sub.ex h hL
  have hdM : d ∉ ads M := fun z => by
    have := (m.at_ z).1
    rw [h] at this
    cases this
  refine ⟨d, _, hH, trivial, fun od => ?_⟩
  have key : tW1 X st ⟨fun σ' H' => ∃ a, f a ∧ stA (d :: L) ⟨H0, upd H d (.frz od (.dK (ofD kvs))), ads M⟩ (Gs a) (Ms a) σ' H', fun v H' => rtA (d :: L) ⟨H0, upd H d (.frz od (.dK (ofD kvs))), ads M⟩ PR MR v H', fun _ _ => False, fun _ _ => False⟩ σ (upd H d (.frz od (.dK (ofD kvs)))) :=
    h1 _ σ _ ⟨H0, .refl (lock_sub g.sub h hL), l, lock_mo m h, fun b hb => .inl hb⟩
  have back : ∀ {H0' H'}, Grow (d :: L) (ads M) H0 (upd H d (.frz od (.dK (ofD kvs)))) H0' H' → H' d = some (.frz od (.dK (ofD kvs))) ∧ Grow L B.A B.h0 B.h H0' (upd H' d (.dK (ofD kvs))) := fun {H0' H'} gx =>
    ⟨gx.keep d _ upd_same hdM, g.trans (unlock_grow g.sub h hL gx) fr⟩
  intro pins sh I
  refine wpAny_mono (key pins sh I) (fun fl s1 q => ?_) fun _ _ q => q
  cases fl with
  | next =>
    obtain ⟨σ', H', I2, a, fa, H0', gx, l', m', f'⟩ := q
    obtain ⟨b1, b2⟩ := back gx
    refine ⟨σ', H', I2, b1, (hr a fa).run σ' _ ⟨H0', b2, l', lock_mo m' (gx.pure _ _ h), fun b hb => ?_⟩⟩
    rcases f' b hb with z | z
    · exact fr b z
    · have z : upd H d (.frz od (.dK (ofD kvs))) b = none := z
      by_cases e : b = d
      · rw [e, upd_same] at z
        cases z
      · rw [upd_ne e] at z
        cases q : B.h b with
        | none => exact .inr rfl
        | some o => exact absurd z (g.live b (by rw [q]; simp))
  | brk =>
    obtain ⟨σ', H', I2, q⟩ := q
    exact q.elim
  | cont =>
    obtain ⟨σ', H', I2, q⟩ := q
    exact q.elim
  | ret v =>
    obtain ⟨x, σ', H', I2, r, H0', gx, p, m'⟩ := q
    obtain ⟨b1, b2⟩ := back gx
    exact ⟨x, σ', H', I2, r, b1, hrt x _ ⟨H0', b2, p, lock_mo m' (gx.pure _ _ h)⟩⟩
/-! ### the keys, the values, the items of a locked dict -/
theorem of_at {d : DD} {i : Nat} {k : Key} {v : V} (h : (ofD d)[i]? = some (k, v)) : ∃ q : Str × Int, d[i]? = some q ∧ k = Sum.inr q.1 ∧ v = .int q.2 := by
  unfold ofD at h
  rw [List.getElem?_map] at h
  cases e : d[i]? with
  | none =>
    rw [e] at h
    cases h
  | some q =>
    rw [e] at h
    cases h
    exact ⟨q, rfl, rfl, rfl⟩
theorem xi_keys {d : Addr} {kvs : DD} (he : XE X L e G M (Dca d kvs) M1) (hL : d ∈ L) : XI X L tg e G M (kvs.map fun q => Vl (.str q.1)) M1 [] := ⟨he.ad, _, pi_keys pW, fun σ H H0 s l m R k => he.then_ s l m fun v H1 H01 g1 s1 l1 m1 ⟨ev, ha⟩ => by
  obtain ⟨o, hf⟩ := s1.lkd ha hL
  have w : Walk (Itk d o (ofD kvs)) (kvs.map fun q => Vl (.str q.1)).length (fun H => H d = some (.frz o (.dK (ofD kvs)))) (fun i H x H' => H' = H ∧ ∃ k v, (ofD kvs)[i]? = some (k, v) ∧ x = kV k) := by
    have q := walk_keys (d := d) (o := o) (kvs := ofD kvs)
    rw [show (ofD kvs).length = (kvs.map fun q => Vl (.str q.1)).length by unfold ofD; rw [List.length_map, List.length_map]] at q
    exact q
  have hdM : d ∉ ads M1 := fun z => by
    have := (m1.at_ z).1
    rw [ha] at this
    cases this
  refine ⟨d, o, ev, .inl ⟨_, hf, k _ H1 H01 _ _ g1 m1 w (fun Hx H0x gx _ => gx.keep d _ hf hdM) fun i Hx z Hy H0x hi gx hy => ?_⟩⟩
  · obtain ⟨rfl, k, v, h1, rfl⟩ := hy
    obtain ⟨q, h2, rfl, rfl⟩ := of_at h1
    exact ⟨H0x, _, .refl gx.sub, by rw [List.getElem?_map, h2]; rfl, rfl⟩⟩
theorem xi_vals {d : Addr} {kvs : DD} {apos cpos : Pos} (he : XE X L e G M (Dca d kvs) M1) (hL : d ∈ L) (hbase : attributeBase e "values" X.env (eval e X.env) = eval e X.env := by rfl) (hline : (apos.endLine == cpos.line) = true := by rfl) : XI X L tg (.Call (.Attribute e "values" apos) [] [] cpos) G M (kvs.map fun q => Vl (.int q.2)) M1 [] := ⟨he.ad, _, pi_values pW hbase hline, fun σ H H0 s l m R k => he.then_ s l m fun v H1 H01 g1 s1 l1 m1 ⟨ev, ha⟩ => by
  obtain ⟨o, hf⟩ := s1.lkd ha hL
  have w : Walk (Itd d o (ofD kvs)) (kvs.map fun q => Vl (.int q.2)).length (fun H => H d = some (.frz o (.dK (ofD kvs)))) (fun i H x H' => H' = H ∧ ∃ k, (ofD kvs)[i]? = some (k, x)) := by
    have q := walk_values (d := d) (o := o) (kvs := ofD kvs)
    rw [show (ofD kvs).length = (kvs.map fun q => Vl (.int q.2)).length by unfold ofD; rw [List.length_map, List.length_map]] at q
    exact q
  have hdM : d ∉ ads M1 := fun z => by
    have := (m1.at_ z).1
    rw [ha] at this
    cases this
  refine ⟨d, o, _, ev, hf, k _ H1 H01 _ _ g1 m1 w (fun Hx H0x gx _ => gx.keep d _ hf hdM) fun i Hx z Hy H0x hi gx hy => ?_⟩
  obtain ⟨rfl, k, h1⟩ := hy
  obtain ⟨q, h2, rfl, rfl⟩ := of_at h1
  exact ⟨H0x, _, .refl gx.sub, by rw [List.getElem?_map, h2]; rfl, rfl⟩⟩
theorem xi_items {d : Addr} {kvs : DD} {apos cpos tpos : Pos} {elts : List Expr} {kk : Nat} (he : XE X L e G M (Dca d kvs) M1) (hL : d ∈ L) (hbase : attributeBase e "items" X.env (eval e X.env) = eval e X.env := by rfl) (hline : (apos.endLine == cpos.line) = true := by rfl) : XI X L (.Tuple elts kk tpos) (.Call (.Attribute e "items" apos) [] [] cpos) G M (kvs.map fun q => Tp [Vl (.str q.1), Vl (.int q.2)]) M1 [] := ⟨he.ad, _, pi_items pW hbase hline, fun σ H H0 s l m R k => he.then_ s l m fun v H1 H01 g1 s1 l1 m1 ⟨ev, ha⟩ => by
  obtain ⟨o, hf⟩ := s1.lkd ha hL
  have w : Walk (Iti d o (ofD kvs)) (kvs.map fun q => Tp [Vl (.str q.1), Vl (.int q.2)]).length (fun H => H d = some (.frz o (.dK (ofD kvs)))) (YPair (fun i => (ofD kvs)[i]?.map fun kv => kV kv.1) (fun i => (ofD kvs)[i]?.map Prod.snd)) := by
    have q := walk_items (d := d) (o := o) (kvs := ofD kvs)
    rw [show (ofD kvs).length = (kvs.map fun q => Tp [Vl (.str q.1), Vl (.int q.2)]).length by unfold ofD; rw [List.length_map, List.length_map]] at q
    exact q
  have hdM : d ∉ ads M1 := fun z => by
    have := (m1.at_ z).1
    rw [ha] at this
    cases this
  refine ⟨d, o, _, ev, hf, k _ H1 H01 _ _ g1 m1 w (fun Hx H0x gx _ => gx.keep d _ hf hdM) fun i Hx z Hy H0x hi gx hy => ?_⟩
  obtain ⟨T, x, y, rfl, hT, rfl, hx, hy⟩ := hy
  have hx : (ofD kvs)[i]?.map (fun kv => kV kv.1) = some x := hx
  have hy : (ofD kvs)[i]?.map Prod.snd = some y := hy
  cases e1 : (ofD kvs)[i]? with
  | none =>
    rw [e1] at hx
    cases hx
  | some kv =>
    rw [e1] at hx hy
    obtain ⟨k0, v0⟩ := kv
    obtain ⟨q, h2, rfl, rfl⟩ := of_at e1
    have hx : V.str q.1 = x := Option.some.inj hx
    have hy : V.int q.2 = y := Option.some.inj hy
    subst hx hy
    have g2 : Grow L [] H0x Hx (upd H0x T (.tup [.str q.1, .int q.2])) (upd Hx T (.tup [.str q.1, .int q.2])) := .alloc gx.sub hT
    exact ⟨_, Tp [Vl (.str q.1), Vl (.int q.2)], g2, by rw [List.getElem?_map, h2]; rfl, T, _, rfl, upd_same, rfl, rfl, trivial⟩⟩
/-! ### a dict comprehension -/
def CDc (d : DD) : CP := ⟨fun o _ => o = .dK (ofD d), fun _ _ _ _ h => h⟩
theorem dc_it {J : It} {n : Nat} {Gd : Hp → Prop} {Y : Nat → Hp → V → Hp → Prop} (w : Walk J n Gd Y) {g : TG} {tt : TT} {tk tv : TE} {vs : List Nat} {σ : St} {H1 : Hp} {D : Addr} {Qd : Hp → Prop} (Pv : Nat → Hp → Prop) (h0 : Pv 0 (upd H1 D (.dK []))) (hG : ∀ i H, i ≤ n → Pv i H → Gd H)
    (hs : ∀ i x H H', i < n → Pv i H → Y i H x H' → g x (L2.wipe σ vs) H' fun σ2 H2 => L2.wipe σ2 vs = L2.wipe σ vs ∧ tt σ2 H2 fun b H3 =>
      if b = true then tk σ2 H3 fun y H4 => tv σ2 H4 fun z H5 => ∃ kvs k, y = kV k ∧ H5 D = some (.dK kvs) ∧ kvs.length < sizeLine ∧ Pv (i + 1) (upd H5 D (.dK (putK kvs k z))) else Pv (i + 1) H3) (hd : ∀ H, Pv n H → Qd H) :
    ∃ W : Nat → Nat → Hp → Prop, (∃ m, W 0 m (upd H1 D (.dK []))) ∧ ∀ i m H, W i m H →
      (J.stop i H ∧ Qd H) ∨ (J.go i H ∧ ∃ Nx : Hp → Prop, (∀ H', Nx H' → ∃ m', m' < m ∧ W (i + 1) m' H') ∧ ∀ x H', J.yld i H x H' → g x (L2.wipe σ vs) H' fun σ2 H2 => L2.wipe σ2 vs = L2.wipe σ vs ∧ tt σ2 H2 fun b H3 =>
        if b = true then tk σ2 H3 fun y H4 => tv σ2 H4 fun z H5 => ∃ kvs k, y = kV k ∧ H5 D = some (.dK kvs) ∧ kvs.length < sizeLine ∧ Nx (upd H5 D (.dK (putK kvs k z))) else Nx H3) := by
  refine ⟨fun i m H => m = n - i ∧ i ≤ n ∧ Pv i H, ⟨n, by simp, Nat.zero_le _, h0⟩, ?_⟩
  rintro i m H ⟨rfl, hi, p⟩
  have q := hG i H hi p
  by_cases hlt : i < n
  · exact .inr ⟨w.goes i H hlt q, Pv (i + 1), fun H' p' => ⟨n - (i + 1), by omega, rfl, hlt, p'⟩, fun x H' y => hs i x H H' hlt p (w.yields i H x H' hlt q y)⟩
  · have e : i = n := by omega
    subst e
    exact .inl ⟨w.stops H q, hd H p⟩
theorem xe_dc {α : Type} {kx vx : Expr} {ifs : List Expr} {scope : Scope} {own : List (Str × Nat)} (js : List Nat) (G2 : α → Gam) (xs : List α) (R : α → VP) (kf : α → Str) (vf : α → Int) (q : α → Bool) (hc : X.calm = true) (hN : X.N.Nodup) (hi : XI X L tg iter G M (xs.map R) M1 Mw) (ok : BlkOk X.N X.env.scope scope own) (hw : ∀ H0 H, MO M1 H0 H → MO Mw H0 H)
    (hl : xs.length < sizeLine) (hj : ∀ j ∈ js, j ∈ own.map (·.2)) (hg : ∀ x ∈ xs, ∀ s H C cl fp, XG1 (bk X scope s H C cl fp) L tg js (R x) (wipeG G (own.map (·.2))) (G2 x))
    (ht : ∀ x ∈ xs, ∀ s H C cl fp, XTs (bk X scope s H C cl fp) L ifs (G2 x) M1 (· = q x) M1) (hk : ∀ x ∈ xs, q x = true → ∀ s H C cl fp, XE (bk X scope s H C cl fp) L kx (G2 x) M1 (Vl (.str (kf x))) M1) (hv : ∀ x ∈ xs, q x = true → ∀ s H C cl fp, XE (bk X scope s H C cl fp) L vx (G2 x) M1 (Vl (.int (vf x))) M1)
    (hfs : ∀ x, foldedSetIterable iter X.env x = pure x := by intro _; rfl) : XE X L (.DictComp kx vx [⟨tg, iter, ifs, 0⟩] scope pos) G M (Dc (mk kf vf (xs.filter q))) M1 := by
  obtain ⟨wi, hwi, hrun⟩ := hi.run
  let g : TG := fun v σ H Q => ∀ s Hb C cl fp, tWg (bk X scope s Hb C cl fp) tg v σ H Q
  let tt : TT := fun σ H Q => ∀ s Hb C cl fp pins sh, Inv (bk X scope s Hb C cl fp) pins σ H sh →
    wpAny (model X.prog X.w) X.A (forIn ifs true fun c r => if r = true then do let ok ← isTrue c (bk X scope s Hb C cl fp).env (eval c (bk X scope s Hb C cl fp).env); pure (ForInStep.yield ok) else pure (ForInStep.yield r)) (TP (bk X scope s Hb C cl fp) pins σ Q) (bk X scope s Hb C cl fp).xe sh
  let tk : TE := fun σ H Q => ∀ s Hb C cl fp, tW (bk X scope s Hb C cl fp) kx σ H Q
  let tv : TE := fun σ H Q => ∀ s Hb C cl fp, tW (bk X scope s Hb C cl fp) vx σ H Q
  refine .of (pe_dc (tk := tk) (tv := tv) (g := g) (tt := tt) hc hN hwi ok (fun s Hb C cl fp => ⟨fun pins sh σ H v u Q I r h => h s Hb C cl fp pins sh u I r⟩) (fun s Hb C cl fp => ⟨fun pins sh σ H Q I h => h s Hb C cl fp pins sh I⟩) (fun s Hb C cl fp => ⟨fun pins sh σ H Q I h => h s Hb C cl fp pins sh I⟩) (fun s Hb C cl fp => ⟨fun pins sh σ H Q I h => h s Hb C cl fp pins sh I⟩) hfs) hi.ad
    fun σ H H0 s l m Q k => hrun σ H H0 s l m _ fun J H1 H01 Gd Y g1 m1 w hG hY D hD => ?_
  have hD0 : H01 D = none := g1.sub.no hD
  have hxl : (xs.map R).length = xs.length := List.length_map ..
  refine dc_it w (fun i H' => ∃ H0', Grow L (ads M1) H01 H1 H0' H' ∧ MO (M1 ++ [(D, CDc (mk kf vf ((xs.take i).filter q)))]) H0' H') ?_ ?_ ?_ ?_
  · refine ⟨H01, ?_, ?_⟩
    · have g2 : Grow L (ads M1) H01 H1 H01 H1 := .refl g1.sub
      exact g2.write hD0 (.inr hD)
    · refine ⟨?_, fun c hc => ?_⟩
      · rw [ads_app]
        refine List.nodup_append.mpr ⟨m1.1, by simp [ads], fun x hx y hy e => ?_⟩
        have hy : y = D := by simpa [ads] using hy
        subst hy e
        exact (m1.at_ hx).2 hD
      · rcases List.mem_append.mp hc with z | z
        · obtain ⟨k1, u, k2, k3⟩ := m1.2 c z
          exact ⟨k1, u, by rw [upd_ne (ne_of_none k2 hD)]; exact k2, k3⟩
        · have z' := List.mem_singleton.mp z
          subst z'
          exact ⟨hD0, _, upd_same, rfl⟩
  · rintro i H' hi' ⟨H0', g', m'⟩
    exact hG H' H0' g' (hw _ _ m'.left)
  · rintro i z H' H'' hi' ⟨H0', g', m'⟩ hy
    have fr : ∀ b ∈ ads M1, b ∈ ads M1 ∨ H1 b = none := fun b hb => .inl hb
    obtain ⟨H0y, P, gy, hP, pz⟩ := hY i H' z H'' H0' hi' g' hy
    rw [hxl] at hi'
    have hx : xs[i] ∈ xs := List.getElem_mem hi'
    rw [List.getElem?_map, List.getElem?_eq_getElem hi'] at hP
    have hP : R xs[i] = P := Option.some.inj hP
    subst hP
    have et : xs.take (i + 1) = xs.take i ++ [xs[i]] := by
      rw [List.take_add_one, List.getElem?_eq_getElem hi']
      rfl
    have m2 := m'.grow0 gy
    have gY : Grow L (ads M1) H01 H1 H0y H'' := g'.tr gy.nil
    have lw : SL (wipeG G (own.map (·.2))) (L2.wipe σ (own.map (·.2))) H0y := ((l.mono g1.pure).mono gY.pure).wipe _
    intro s' Hb C' cl fp
    refine (hg _ hx s' Hb C' cl fp).run z _ H'' H0y gy.sub lw pz _ fun σ2 l2 e2 k2 => ⟨?_, ?_⟩
    · refine wipe_eq ?_ hj k2
      rw [e2, wipe_length]
    · intro s' Hb C' cl fp pins' sh' I'
      refine (ht _ hx s' Hb C' cl fp).run σ2 H'' H0y gy.sub l2 m2.left _ (fun b H3 H03 g3 m3 pb => ?_) pins' sh' I'
      have m3' := m2.join g3 m3 rfl
      have gT : Grow L (ads M1) H01 H1 H03 H3 := gY.trans g3 fr
      cases b with
      | true =>
        rw [if_pos rfl]
        intro s' Hb C' cl fp
        refine (hk _ hx pb.symm s' Hb C' cl fp).run σ2 H3 H03 g3.sub (l2.mono g3.pure) m3'.left _ fun y H4 H04 g4 m4 py => ?_
        have m4' := m3'.join g4 m4 rfl
        intro s' Hb C' cl fp
        refine (hv _ hx pb.symm s' Hb C' cl fp).run σ2 H4 H04 g4.sub ((l2.mono g3.pure).mono g4.pure) m4'.left _ fun y2 H5 H05 g5 m5 py2 => ?_
        have m5' := m4'.join g5 m5 rfl
        obtain ⟨q1, o, q2, ev⟩ := m5'.2 (D, CDc (mk kf vf ((xs.take i).filter q))) (List.mem_append_right _ (List.mem_singleton.mpr rfl))
        have q2 : H5 D = some o := q2
        have ev : o = .dK (ofD (mk kf vf ((xs.take i).filter q))) := ev
        subst ev
        have py : y = .str (kf xs[i]) := py
        have py2 : y2 = .int (vf xs[i]) := py2
        subst py py2
        refine ⟨_, Sum.inr (kf xs[i]), rfl, q2, ?_, H05, ?_, ?_⟩
        · have h1 := mk_len kf vf ((xs.take i).filter q)
          have h2 := List.length_filter_le q (xs.take i)
          have h3 : (xs.take i).length ≤ xs.length := by
            rw [List.length_take]
            omega
          rw [show (ofD (mk kf vf ((xs.take i).filter q))).length = _ from List.length_map ..]
          omega
        · have gE : Grow L (ads M1) H01 H1 H05 H5 := (gT.trans g4 fr).trans g5 fr
          exact gE.write q1 (.inr hD)
        · refine m5'.write ?_
          show HO.dK _ = HO.dK _
          rw [et, List.filter_append, List.filter_cons, if_pos pb.symm, List.filter_nil, mk_take, ofD_put]
      | false =>
        rw [if_neg Bool.false_ne_true]
        refine ⟨H03, gT, ?_⟩
        rw [et, List.filter_append, List.filter_cons, if_neg (by rw [← pb]; decide), List.filter_nil, List.append_nil]
        exact m3'
  · rintro H' ⟨H0', g', m'⟩
    have hDn : H D = none := by
      cases q : H D with
      | none => rfl
      | some o => exact absurd hD (g1.live D (by rw [q]; simp))
    rw [hxl, List.take_length] at m'
    have g2 : Grow L (ads M) H0 H H0' H' := g1.trans g' fun b hb => .inl (by rw [hi.ad] at hb; exact hb)
    obtain ⟨o, h3, h2, g3, m3, sm⟩ := m'.shut g2 hDn
    have h3 : o = .dK (ofD (mk kf vf (xs.filter q))) := h3
    subst h3
    exact k _ H' _ g3 m3 ⟨D, rfl, upd_same⟩
end
end Y
/-! text S6 -/
set_option Elab.async false
set_option linter.all false
set_option maxRecDepth 100000
namespace Y
open PySem PySem.Spec PyProof.Rows L2
/-! ### operators of an own class -/
section
variable {X : Cx} {pins : List (Addr × Obj)} {σ : L2.St} {H : Hp} {s : Shared} {n : Nat} {f C : Addr} {fd : FuncData} {ps : List Str} {sp : Sp}
theorem own_run {A : Around} (hr : Room n A) (hfr : A.frames = X.A.frames) (F : FnOk X.prog X.w X.K X.mg X.base CX0 n f fd ps sp) (hb : Binds X.K fd ps []) (I : Inv X pins σ H s) {vs : List V} {us : List Value} (r : Vals vs us) {Q : VK} (hsp : sp vs H Q E0) :
    wpAny (model X.prog X.w) A (call (.ref f) us) (EP X pins σ Q) X.xe s := by
  have e0 : Env0 X.prog X.w X.K X.mg X.base A X.stack s H := by
    have e := I.env0
    exact ⟨by rw [hfr]; exact e.frames, e.mod, e.bs, e.bsz, e.funs, e.frf, e.hok, e.bare⟩
  have hl := F.len _ _ _ _ hsp
  refine wpAny_call (codeAny_mono (F.run A X.stack s H ⟨us, []⟩ us vs Q E0 hr e0 (by
    have := hb s us I.kIn (by rw [List.append_nil, ← r.length]; exact hl)
    simpa using this) r hsp) fun r s' hq => ?_)
  cases r with
  | error e => exact hq.elim
  | ok fl =>
    cases fl with
    | ret w => exact I.after hq
    | next => exact False.elim hq
    | brk => exact False.elim hq
    | cont => exact False.elim hq
theorem relV_ni {v : V} {u : Value} (r : RelV v u) : u ≠ .notImplemented := by
  intro e
  subst e
  cases v <;> first | (obtain ⟨t, q⟩ := r; cases q) | cases r
theorem back_of {Q : VK} {u : Value} {s' : Shared} (h : EP X pins σ Q u s') : PySem.W.CmpBack (EP X pins σ Q) u s' := by
  obtain ⟨v, H', I, r, q⟩ := h
  have ne := relV_ni r
  have fin : EP X pins σ Q u s' := ⟨v, H', I, r, q⟩
  cases u <;> first | exact absurd rfl ne | exact fin
theorem relR (a : Addr) : RelV (.ref a) (.ref a) := rfl
theorem relI (k : Int) (t : Tok) : RelV (.int k) (.int k t) := ⟨t, rfl⟩
/-- x op y, both of the class at C -/
def rOwn (C : Addr) (sp : Sp) : R2 := fun x y H Q => (∃ a dx fs, x = .ref a ∧ H a = some (.ins C dx fs)) ∧ (∃ b dy gs, y = .ref b ∧ H b = some (.ins C dy gs)) ∧ sp [x, y] H Q E0
theorem op_own {op : Operator} (hr : Room n X.A) (F : FnOk X.prog X.w X.K X.mg X.base CX0 n f fd ps sp) (hb : Binds X.K fd ps []) (hm : Meth X.K C (PySem.dunder op.info.2) f) (hc : PySem.W.selfFirst X.K C = true) : OpR X (binaryOp op) (rOwn C sp) := by
  intro pins s σ H x y v u Q I rx ry hq
  obtain ⟨⟨a, dx, fs, rfl, ha⟩, ⟨b, dy, gs, rfl, hb'⟩, q⟩ := hq
  cases rx
  cases ry
  obtain ⟨mA, J, _⟩ := ins_get I.hok ha
  obtain ⟨mB, J', _⟩ := ins_get I.hok hb'
  obtain ⟨od, J, _⟩ := J.look
  obtain ⟨od', J', _⟩ := J'.look
  obtain ⟨m, hF⟩ := I.fr
  refine PySem.W.binop_K hF I.ok.mod.kin J J'.type hc hm.at_ hm.fn ?_
  exact wpAny_mono (own_run hr rfl F hb I (.cons (relR _) (.cons (relR _) .nil)) q) (fun _ _ h => back_of h) fun _ _ h => h
/-- x op int -/
def rOwnI (C : Addr) (sp : Sp) : R2 := fun x y H Q => (∃ a dx fs, x = .ref a ∧ H a = some (.ins C dx fs)) ∧ (∃ k, y = .int k) ∧ sp [x, y] H Q E0
theorem op_ownI {op : Operator} {g : Addr} {fo ro : Option Value} (hr : Room n X.A) (F : FnOk X.prog X.w X.K X.mg X.base CX0 n f fd ps sp) (hb : Binds X.K fd ps []) (hm : Meth X.K C (PySem.dunder op.info.2) f) (hc : PySem.W.selfFirst X.K C = true)
    (hrm : PySem.W.findIn X.K (.ref C) (dunderR op.info.2) = some (some (.ref g))) (h1 : PySem.W.findIn X.K (.type "int") (PySem.dunder op.info.2) = some fo) (h2 : PySem.W.findIn X.K (.type "int") (dunderR op.info.2) = some ro) (hsub : PySem.W.subIn X.K (.type "int") (.ref C) = some false) : OpR X (binaryOp op) (rOwnI C sp) := by
  intro pins s σ H x y v u Q I rx ry hq
  obtain ⟨⟨a, dx, fs, rfl, ha⟩, ⟨k, rfl⟩, q⟩ := hq
  cases rx
  obtain ⟨t, rfl⟩ := ry
  obtain ⟨mA, J, _⟩ := ins_get I.hok ha
  obtain ⟨od, J, _⟩ := J.look
  obtain ⟨m, hF⟩ := I.fr
  refine PySem.W.ksp_binT (T := "int") hF I.ok.mod.kin J rfl hc hm.at_ hm.fn hrm (.inr ⟨g, rfl⟩) h1 h2 hsub ?_
  exact wpAny_mono (own_run hr rfl F hb I (.cons (relR _) (.cons (relI _ t) .nil)) q) (fun _ _ h => back_of h) fun _ _ h => h
theorem int_mul_ref {prog : Program} {w : World} {A : Around} {R : Fin → Shared → Prop} {E : Value → Shared → Prop} {s : Shared} {i : Int} {t : Tok} {a : Addr} {ob : Obj} (ho : s.heap.get? a = some ob) (hp : ob.data = .plain) (h : R (.done (.ret .notImplemented)) s) :
    wpAny (model prog w) A (Builtin.«int.__mul__» ⟨[.int i t, .ref a], []⟩) R E s := by
  unfold Builtin.«int.__mul__» Builtin.Int.intBinary
  refine wpAny_bind (m := slotArgs _ 1 _) (wpAny_of_eq (a := (Value.int i t, [Value.ref a])) (by rfl) ?_)
  refine wpAny_bind (m := Builtin.Int.intOfSelf _) (wpAny_of_eq (a := i) (by rfl) ?_)
  dsimp only
  refine wpAny_bind (m := asInt? (.ref a)) ?_
  unfold asInt?
  refine wpAny_bind (wpAny_load ho ?_)
  rw [hp]
  refine wpAny_pure ?_
  exact wpAny_bind (wpAny_rule (wpAny_pure h))
/-- int op y by the class's own reflected method -/
def rOwnR (C : Addr) (sp : Sp) : R2 := fun x y H Q => (∃ k, x = .int k) ∧ (∃ a dx fs, y = .ref a ∧ H a = some (.ins C dx fs)) ∧ sp [y, x] H Q E0
theorem bin1_refl {M : Model} {A : Around} {E : Value → Shared → Prop} {s : Shared} {T : String} {C : Addr} {nm : String} {a b : Value} {Q : Option Value → Shared → Prop} (ha : s.TypeIs a T) (hb : PySem.W.Looks M s.heap (typeOf b) (.ref C)) (hfT : fillsNumberSlot (.type T) nm = pure true)
    (hfC : PySem.W.Looks M s.heap (fillsNumberSlot (.ref C) nm) true) (hsub : PySem.W.Looks M s.heap (isSubtype (.ref C) (.type T)) false)
    (h : wpAny M A (tryMethod a (dunder nm) b) (fun r s' => r = none ∧ wpAny M A (tryMethod b (dunderR nm) a) (fun r s' => ∃ v, r = some v ∧ Q (some v) s') E s') E s) : wpAny M A (binaryOp1 nm a b) Q E s := by
  simp only [binaryOp1]
  refine wpAny_bind (wpAny_typeOf ha (wpAny_bind (hb.here (wpAny_bind (wpAny_of_eq hfT ?_)))))
  have hne : (Value.type T == Value.ref C) = false := Bool.eq_false_iff.mpr fun q => by cases beq_iff_eq.mp q
  simp only [hne, Bool.false_eq_true, if_false]
  refine wpAny_bind (hfC.here ?_)
  simp only [Bool.and_self, if_true]
  refine wpAny_bind (hsub.here ?_)
  have hpy : numberSlotInPython (.type T) nm = pure false := rfl
  simp only [Bool.false_eq_true, if_false, pure_bind, Bool.not_false, Bool.and_self, if_true, hpy]
  refine wpAny_bind (wpAny_mono h (fun r s' hr => ?_) fun _ _ h => h)
  obtain ⟨rfl, hr⟩ := hr
  refine wpAny_bind (wpAny_mono hr (fun r s' hz => ?_) fun _ _ h => h)
  obtain ⟨z, rfl, hz⟩ := hz
  exact wpAny_bind (wpAny_rule (wpAny_pure hz))
theorem bin_refl {M : Model} {A : Around} {E : Value → Shared → Prop} {s : Shared} {op : Operator} {T : String} {C : Addr} {a b : Value} {Q : Value → Shared → Prop} (ha : s.TypeIs a T) (hb : PySem.W.Looks M s.heap (typeOf b) (.ref C)) (hfT : fillsNumberSlot (.type T) op.info.2 = pure true)
    (hfC : PySem.W.Looks M s.heap (fillsNumberSlot (.ref C) op.info.2) true) (hsub : PySem.W.Looks M s.heap (isSubtype (.ref C) (.type T)) false)
    (h : wpAny M A (tryMethod a (dunder op.info.2) b) (fun r s' => r = none ∧ wpAny M A (tryMethod b (dunderR op.info.2) a) (fun r s' => ∃ v, r = some v ∧ Q v s') E s') E s) : wpAny M A (binaryOp op a b) Q E s := by
  rcases hi : op.info with ⟨sym, nm⟩
  rw [hi] at hfT hfC h
  simp only [binaryOp, hi]
  refine wpAny_holding (wpAny_bind (bin1_refl ha hb hfT hfC hsub (wpAny_mono h (fun r s' hr => ⟨hr.1, wpAny_mono hr.2 (fun r s' hz => ?_) fun _ _ h => h⟩) fun _ _ h => h)))
  obtain ⟨z, e, hz⟩ := hz
  exact ⟨z, e, wpAny_pure hz⟩
theorem bin_reflS {M : Model} {A : Around} {E : Value → Shared → Prop} {s : Shared} {op : Operator} {T idl : String} {C : Addr} {a b : Value} {Q : Value → Shared → Prop} (ha : s.TypeIs a T) (hb : PySem.W.Looks M s.heap (typeOf b) (.ref C)) (hfT : fillsNumberSlot (.type T) op.info.2 = pure true)
    (hfC : PySem.W.Looks M s.heap (fillsNumberSlot (.ref C) op.info.2) true) (hsub : PySem.W.Looks M s.heap (isSubtype (.ref C) (.type T)) false) (hl : Slot T (dunder op.info.2) idl)
    (h : wpAny M A (call (.builtin idl) [a, b]) (fun v s' => v = .notImplemented ∧ wpAny M A (tryMethod b (dunderR op.info.2) a) (fun r s' => ∃ v, r = some v ∧ Q v s') E s') E s) : wpAny M A (binaryOp op a b) Q E s :=
  bin_refl ha hb hfT hfC hsub (wpAny_tryMethod_declines ha hl (wpAny_mono h (fun _ _ z => ⟨z.1, rfl, z.2⟩) fun _ _ h => h))
theorem op_mulR {g : Addr} (hr : Room n X.A) (F : FnOk X.prog X.w X.K X.mg X.base CX0 n f fd ps sp) (hb : Binds X.K fd ps []) (hm : Meth X.K C (PySem.dunder (Operator.info .Mult).2) g) (hrm : Meth X.K C (dunderR (Operator.info .Mult).2) f) (hc : PySem.W.selfFirst X.K C = true)
    (hsub : PySem.W.subIn X.K (.ref C) (.type "int") = some false) : OpR X (binaryOp .Mult) (rOwnR C sp) := by
  intro pins s σ H x y v u Q I rx ry hq
  obtain ⟨⟨k, rfl⟩, ⟨a, dx, fs, rfl, ha⟩, q⟩ := hq
  cases ry
  obtain ⟨t, rfl⟩ := rx
  obtain ⟨mA, J, _⟩ := ins_get I.hok ha
  obtain ⟨od, J, _⟩ := J.look
  have X' := I.kIn
  obtain ⟨cd, rest, hcd, hmro⟩ := PySem.W.ksp_first hc
  have hTi : s.TypeIs (.int k t) "int" := typeIs_int s k t
  have one := PySem.W.ksp_try (name := dunderR (Operator.info .Mult).2) (b := .int k t) X' J hrm.at_ hrm.fn (wpAny_mono (own_run hr rfl F hb I (.cons (relR a) (.cons (relI k t) .nil)) q) (fun _ _ h => back_of h) fun _ _ h => h)
  exact bin_reflS (op := .Mult) hTi J.type PySem.F.fills_int_mul (PySem.W.fills_K X' hcd hmro hm.at_) (PySem.W.looks_subIn X' hsub) PySem.F.slot_int_mul
    (GQ.call_here PySem.F.slot_int_mul hTi PySem.F.entry_int_mul (PySem.F.args_int_mul_2 _ _) (int_mul_ref J.at_ rfl ⟨rfl, one⟩))
/-- x == y, x <= y -/
theorem op_ownC {op : CmpOp} (hr : Room n X.A) (F : FnOk X.prog X.w X.K X.mg X.base CX0 n f fd ps sp) (hb : Binds X.K fd ps []) (hm : Meth X.K C (cmpInfo op).2.1 f) (hop : compareOp op = richCompare op) : OpR X (compareOp op) (rOwn C sp) := by
  intro pins s σ H x y v u Q I rx ry hq
  obtain ⟨⟨a, dx, fs, rfl, ha⟩, ⟨b, dy, gs, rfl, hb'⟩, q⟩ := hq
  cases rx
  cases ry
  obtain ⟨mA, J, _⟩ := ins_get I.hok ha
  obtain ⟨mB, J', _⟩ := ins_get I.hok hb'
  obtain ⟨od, J, _⟩ := J.look
  obtain ⟨od', J', _⟩ := J'.look
  obtain ⟨m, hF⟩ := I.fr
  rw [hop]
  refine PySem.W.cmp_K (op := op) (tb := .ref C) hr.units0 hF I.ok.mod.kin J J'.type (by simp [PySem.W.notFirst]) hm.at_ hm.fn ?_
  exact wpAny_mono (own_run hr rfl F hb I (.cons (relR _) (.cons (relR _) .nil)) q) (fun _ _ h => back_of h) fun _ _ h => h
/-- x[y] -/
theorem ix_own (hr : Room (n + 1) X.A) (F : FnOk X.prog X.w X.K X.mg X.base CX0 n f fd ps sp) (hb : Binds X.K fd ps []) (hm : Meth X.K C "__getitem__" f) (hf : PySem.W.fnIn X.K f = true) {a b : Expr} {ta tb : TE} {pos : Pos} (ha : PE X a ta) (hbb : PE X b tb)
    (hsl : ∀ o i, subscripted b true o i = runValue (.builtin "lifetime.subscript" ⟨[o, i], []⟩)) : PE X (.Subscript a b pos) (tOp (fun x y H Q => (∃ a dx fs, x = .ref a ∧ H a = some (.ins C dx fs)) ∧ sp [x, y] H Q E0) ta tb) := by
  refine ⟨fun pins s σ H Q I h => ?_⟩
  refine Subscript_ (binT ha hbb I h fun v u s2 x y H2 I2 rx ry q => ?_)
  obtain ⟨⟨c, dx, fs, rfl, hc⟩, q⟩ := q
  cases rx
  obtain ⟨mA, J, _⟩ := ins_get I2.hok hc
  obtain ⟨od, J, _⟩ := J.look
  obtain ⟨m, hF⟩ := I2.fr
  exact PySem.W.sub_K hF I2.ok.mod.kin J hm.at_ hf hm.fn (own_run hr.in1 rfl F hb I2 (.cons (relR _) (.cons ry .nil)) q) (hsl _ _)
/-- truth by __bool__ -/
theorem truth_own {Q : Bool → Hp → Prop} {a dx : Addr} {fs : List (Str × V)} (hr : Room n X.A) (F : FnOk X.prog X.w X.K X.mg X.base CX0 n f fd ps sp) (hb : Binds X.K fd ps []) (hm : Meth X.K C "__bool__" f) (I : Inv X pins σ H s) (ha : H a = some (.ins C dx fs))
    (q : sp [.ref a] H (fun v H' => ∃ k, v = .bl k ∧ Q k H') E0) : wpAny (model X.prog X.w) X.A (truthy (.ref a)) (TP X pins σ Q) X.xe s := by
  obtain ⟨mA, J, _⟩ := ins_get I.hok ha
  obtain ⟨od, J, _⟩ := J.look
  obtain ⟨m, hF⟩ := I.fr
  refine PySem.W.truthy_K hF I.ok.mod.kin J hm.at_ hm.fn (wpAny_mono (own_run hr rfl F hb I (.cons (relR _) .nil) q) (fun u s' h => ?_) fun _ _ h => h)
  obtain ⟨v, H', I', r, k, rfl, q⟩ := h
  cases r
  exact ⟨H', I', q⟩
end
end Y
/-! text S7 -/
set_option Elab.async false
set_option linter.all false
set_option maxRecDepth 100000
namespace Y
open PySem PySem.Spec PyProof.Rows L2
/-! ### tuple(d), *d, bool(d), x == () -/
section
variable {prog : Program} {w : World} {A : Around} {E : Value → Shared → Prop} {s : Shared}
theorem code_tupD {d ep : Nat} {vs : List (Key × Value)} {Q₁ : Value → Shared → Prop} (hh : A.handled = none) (lo : (d == sysModules) = false) (hat : s.heap.DictAt (mixKind prog w) d vs ep) (hn : vs.length ≤ sizeLine)
    (h : ∀ (h' : Heap) (tk : Nat) (acc : Array Value), (∀ b o, s.heap.get? b = some o → h'.get? b = some o) → ItemsOf (fun i v => ∃ k x, vs[i]? = some (k, x) ∧ (mixKind prog w).is k v = true) acc vs.length →
      Q₁ (.ref h'.objs.size) { s with heap := h'.push { cls := .type "tuple", data := .seq acc }, toks := tk }) :
    codeAny (model prog w) A (.call (.builtin "tuple.__new__") ⟨[.type "tuple", .ref d], []⟩) (wants Q₁ E) s := by
  refine codeAny_of_tree ?_
  show wpAny _ A.in1 (do checkBuiltinCall "tuple.__new__" ⟨[.type "tuple", .ref d], []⟩; again (.builtin "tuple.__new__" ⟨[.type "tuple", .ref d], []⟩)) _ _ s
  refine wpAny_bind (wpAny_of_eq (F.newCall_tuple_1 _) (wpAny_pure ⟨plainId_quiet F.plain_tuple_new _, codeAny_builtin F.entry_tuple_new ?_⟩))
  rw [Around.under_plainId F.plain_tuple_new _]
  have hsub := sub_tuple_self
  have hinit := init_tuple_lookup
  have hmh := madeHere_tuple
  have hTI : s.TypeIs (.ref d) "dict" := hat.dictOf.typeIs
  have hh1 : A.in1.handled = none := hh
  wp_walk using wpAny_typeOf hTI, PySem.W.kdu_collect (A := A.in1) (PySem.W.kdl_dict (knd := mixKind prog w) (kvs := vs) (ep := ep) lo) hh1 hat hn
  intro h' tk acc hk hacc
  show wpAny _ _ (Builtin.Tuple.tupleExact acc.toList.toArray >>= fun v => ret v) _ _ _
  unfold Builtin.Tuple.tupleExact
  refine wpAny_bind (wpAny_newObj_type ?_ (by show acc.toList.toArray.size ≤ sizeLine; simp only [Array.toArray_toList]; rw [hacc.1]; exact hn))
  refine wpAny_pure ?_
  have e : acc.toList.toArray = acc := by simp
  rw [e]
  exact h h' tk acc hk hacc
theorem call_tupD {d ep : Nat} {vs : List (Key × Value)} {Q : Value → Shared → Prop} (hh : A.handled = none) (lo : (d == sysModules) = false) (hat : s.heap.DictAt (mixKind prog w) d vs ep) (hn : vs.length ≤ sizeLine)
    (hQ : ∀ (h' : Heap) (tk : Nat) (acc : Array Value), (∀ b o, s.heap.get? b = some o → h'.get? b = some o) → ItemsOf (fun i v => ∃ k x, vs[i]? = some (k, x) ∧ (mixKind prog w).is k v = true) acc vs.length →
      Q (.ref h'.objs.size) { s with heap := h'.push { cls := .type "tuple", data := .seq acc }, toks := tk }) :
    wpAny (model prog w) A (call (.type "tuple") [.ref d]) Q E s := by
  refine callType_codes (Q₁ := fun obj s₁ => s₁.TypeIs obj "tuple" ∧ Q obj s₁) F.called_tuple (F.typeCall_tuple_1 _) F.entry_object_init
    (code_tupD (A := A.in1) hh lo hat hn fun h' tk acc hk hacc => ⟨⟨_, Heap.get?_push_size _ rfl, rfl⟩, hQ h' tk acc hk hacc⟩) fun obj s₁ h₁ => ?_
  exact ⟨h₁.1, F.args_object_init_2 obj _, object_init_meets F.called_tuple.init.lookup F.called_tuple.made (by decide) prog w A.in1 _ s₁ ⟨h₁.1, rfl, h₁.2⟩⟩
theorem boolD_in (d : Addr) (vs : List (Key × Value)) (hd : (d == sysModules) = false) (hfit : (vs.length : Int) < 2 ^ 63) :
    MeetsIn prog w (Builtin.«bool.__new__» ⟨[.type "bool", .ref d], []⟩) (fun A R s => s.heap.DictOf (mixKind prog w) d vs ∧ R (.ok (.ret (.bool (!vs.isEmpty)))) { s with toks := s.toks + 1 + 1 }) :=
  .of_wp fun A R s hs => by
    obtain ⟨h, hR⟩ := hs
    have f1 := F.conv_sub_bool
    obtain ⟨hp, g, dd, tk, os⟩ := s
    repeat (any_goals (first | assumption | (with_reducible refine wpAny_truthy_dict hd h hfit ?_) | wp_step))
    all_goals first | exact ⟨_, rfl, hR⟩ | exact hR | skip
end
section
variable {X : Cx} {pins : List (Addr × Obj)} {σ : L2.St} {H : Hp} {s : Shared}
theorem keys_of {kvs : List (Key × V)} {vs : List (Key × Value)} {P : Program} {w : World} {acc : Array Value} (rel : KV kvs vs) (hacc : ItemsOf (fun i v => ∃ k x, vs[i]? = some (k, x) ∧ (mixKind P w).is k v = true) acc vs.length) : Vals (kvs.map fun kv => kV kv.1) acc.toList := by
  have ek : (kvs.map fun kv => kV kv.1) = vs.map fun p => kV p.1 := by
    have e := congrArg (List.map kV) rel.keys
    rw [List.map_map, List.map_map] at e
    exact e
  rw [ek]
  exact keys_at (by rw [Array.length_toList]; exact hacc.1) fun j v e => hacc.2 j v (by rw [← Array.getElem?_toList]; exact e)
/-- tuple(d) -/
theorem call_tupleD (hcalm : X.calm = true) : CallR X (.type "tuple") (fun xs H Q => ∃ (a : Addr) (kvs : List (Key × V)), xs = [.ref a] ∧ Rd H a (.dK kvs) ∧ ∀ p, H p = none → Q (.ref p) (upd H p (.tup (kvs.map fun kv => kV kv.1)))) := by
  intro pins s σ H xs us Q I r q
  obtain ⟨a, kvs, ex, hd, q⟩ := q
  subst ex
  obtain ⟨u, eu, rx⟩ := vals1 r
  subst eu
  cases rx
  obtain ⟨z, lo, vs, rel, dd⟩ := dk_rd I.hok hd
  obtain ⟨ep, hat⟩ := dd.dictAt
  refine call_tupD (I.ok.hd hcalm) lo hat (by rw [← rel.length]; exact z) fun h' tk acc hk hacc => ?_
  have I1 : Inv X pins σ H { s with heap := h', toks := tk } := I.kept hk
  refine ⟨.ref h'.objs.size, upd H h'.objs.size (.tup (kvs.map fun kv => kV kv.1)), I1.laid (t' := tk) (fun b u e => Heap.get?_push_of_some _ e) (Nat.le_refl _) ?_, rfl, q _ (I1.hok.fresh (Nat.le_refl _))⟩
  refine ⟨by rw [List.length_map]; exact z, acc.toList, keys_of rel hacc, ?_⟩
  rw [Array.toArray_toList]
  exact ⟨_, Heap.get?_push_size _ rfl, rfl, _, rfl⟩
theorem star_dk {a : Addr} {kvs : List (Key × V)} {E : Value → Shared → Prop} {Q : List Value → Shared → Prop} (hcalm : X.calm = true) (I : Inv X pins σ H s) (h : Rd H a (.dK kvs)) (hQ : ∀ us s', Inv X pins σ H s' → Vals (kvs.map fun kv => kV kv.1) us → Q us s') : PySem.W.StarOf (model X.prog X.w) X.A E (.ref a) Q s := by
  obtain ⟨z, lo, vs, rel, dd⟩ := dk_rd I.hok h
  obtain ⟨ep, hat⟩ := dd.dictAt
  unfold PySem.W.StarOf notIterableAtAll
  refine wpAny_bind (wpAny_specialOf dd.typeIs PySem.F.slot_dict_iter.lookup (wpAny_pure ⟨rfl, ?_⟩))
  exact PySem.W.kdu_collect (PySem.W.kdl_dict (knd := mixKind X.prog X.w) (kvs := vs) (ep := ep) lo) (I.ok.hd hcalm) hat (by rw [← rel.length]; exact z) fun h' tk acc hk hacc => hQ _ _ (I.kept hk) (keys_of rel hacc)
/-- *e, e a dict -/
def tStarD (te : TE) (t : TA) : TA := fun σ H Q => te σ H fun x H1 => ∃ p kvs, x = V.ref p ∧ Rd H1 p (.dK kvs) ∧ t σ H1 fun ys H2 => Q ((kvs.map fun kv => kV kv.1) ++ ys) H2
theorem pa_starD {e : Expr} {es : List Expr} {te : TE} {t : TA} {p : Pos} (hcalm : X.calm = true) (he : PE X e te) (hr : PA X es t) (hs : starEach (.Starred e p :: es) X.env = (true, eval e X.env) :: starEach es X.env := by rfl) : PA X (.Starred e p :: es) (tStarD te t) := by
  refine ⟨fun pos pins s σ H Q I h => ?_⟩
  refine PySem.W.items_star (thn (he.run pins s σ H _ I h) fun v s1 ⟨y, H1, I1, ry, a, xs, ey, hx, q⟩ => ?_) hs
  subst ey
  obtain rfl : v = Value.ref a := ry
  refine star_dk hcalm I1 hx fun us s2 I2 rv => ?_
  exact thn (hr.run pos pins s2 σ H1 _ I2 q) fun ws s3 ⟨vs, H3, I3, r3, q3⟩ => ⟨_, H3, I3, rv.append r3, q3⟩
theorem call_boolD : CallR X (.type "bool") (fun xs H Q => ∃ (a : Addr) (kvs : List (Key × V)), xs = [.ref a] ∧ Rd H a (.dK kvs) ∧ Q (.bl (!kvs.isEmpty)) H) := by
  intro pins s σ H xs us Q I r h
  obtain ⟨a, kvs, rfl, hd, q⟩ := h
  obtain rfl := Vals.ref1 r
  obtain ⟨z, lo, vs, rel, dd⟩ := dk_rd I.hok hd
  have hl := rel.length
  rw [sizeLine_eq] at z
  have he : vs.isEmpty = kvs.isEmpty := by
    cases kvs <;> cases vs <;> simp at hl ⊢
  refine callType_newIn F.called_bool F.newNe_bool (F.typeCall_bool_1 _) (F.newCall_bool_1 _) (fun obj => F.args_object_init_2 obj _) F.entry_bool_new (boolD_in a vs lo (by omega)) ⟨dd, rfl, ?_⟩
  exact ⟨.bl (!kvs.isEmpty), H, I.tok _, by rw [he]; rfl, q⟩
/-- x == (), x == [] -/
def rEqE (K : PySem.W.Frag) : R2 := fun x y H Q => ∃ a b xs, x = .ref a ∧ y = .ref b ∧ ((SqT K H a xs ∧ SqT K H b []) ∨ (SqL K H a xs ∧ SqL K H b [])) ∧ Q (.bl xs.isEmpty) H
theorem op_eqE (hu : X.A.units < cLine) : OpR X (compareOp .Eq) (rEqE X.K) := by
  intro pins s σ H x y v u Q I rx ry h
  obtain ⟨a, b, xs, rfl, rfl, hq, q⟩ := h
  cases rx
  cases ry
  show wpAny (model X.prog X.w) X.A (richCompare .Eq (.ref a) (.ref b)) (EP X pins σ Q) X.xe s
  rcases hq with ⟨ha, hb⟩ | ⟨ha, hb⟩
  · obtain ⟨its, r, pl, hz⟩ := I.tuple ha
    obtain ⟨its2, r2, pl2, hz2⟩ := I.tuple hb
    cases r2
    have hl := r.length
    refine SeqAt.RcAt.tuples (e := fun _ => true) pl pl2 hu (fun j h1 h2 => absurd h2 (by simp)) X.prog X.w X.xe _ ⟨.bl xs.isEmpty, H, I, ?_, q⟩
    show Value.bool _ = Value.bool _
    congr 1
    cases xs <;> cases its <;> simp at hl ⊢
  · obtain ⟨its, r, pl, hz⟩ := I.list ha
    obtain ⟨its2, r2, pl2, hz2⟩ := I.list hb
    cases r2
    have hl := r.length
    cases xs with
    | nil =>
      cases its with
      | cons a l => simp at hl
      | nil => exact SeqAt.RcAt.lists pl.isList pl2.isList rfl hu (e := fun _ => true) (fun j h1 h2 => absurd h2 (Nat.not_lt_zero _)) X.prog X.w X.xe _ ⟨.bl true, H, I, rfl, q⟩
    | cons y ys =>
      cases its with
      | nil => simp at hl
      | cons a l => exact SeqAt.RcAt.lists_lengths pl.isList pl2.isList (by simp) hu X.prog X.w X.xe _ ⟨.bl false, H, I, rfl, q⟩
end
end Y
/-! text S8 -/
set_option Elab.async false
set_option linter.all false
set_option maxRecDepth 100000
namespace Y
open PySem PySem.Spec PyProof.Rows L2
section
variable {X : Cx} {L : List Addr} {e a b c tg iter : Expr} {G G1 G2 : Gam} {M M1 M2 M3 M' Mw Mf : Ml} {P P1 P2 P3 P' : VP} {pos : Pos} {i j : Nat} {x : Str} {B : Bs} {D : Ends} {rest : List Stmt} {st : Stmt} {K : PySem.W.Frag}
theorem ofD_keys (d : DD) : ((ofD d).map fun kv => kV kv.1) = (ks d).map V.str := by
  unfold ofD ks
  rw [List.map_map, List.map_map]
  rfl
theorem rc_dictD {d : DD} : RC L (fun xs H Q => ∃ (a : Addr) (kvs : List (Key × V)), xs = [.ref a] ∧ Rd H a (.dK kvs) ∧ ∀ p, H p = none → Q (.ref p) (upd H p (.dK kvs))) [Dc d] (Dc d) := fun xs H H0 s hv Q k => by
  obtain ⟨v, rfl, a, rfl, ha⟩ := all1 hv
  refine ⟨a, _, rfl, s.dk ha, fun p hp => ?_⟩
  have g : Grow L [] H0 H (upd H0 p (.dK (ofD d))) (upd H p (.dK (ofD d))) := .alloc s hp
  exact k _ _ _ g ⟨p, rfl, upd_same⟩
theorem rc_listD {d : DD} : RC L (fun xs H Q => ∃ (a : Addr) (kvs : List (Key × V)), xs = [.ref a] ∧ Rd H a (.dK kvs) ∧ ∀ p, H p = none → Q (.ref p) (upd H p (.lst (kvs.map fun kv => kV kv.1)))) [Dc d] (TL (ks d)) := fun xs H H0 s hv Q k => by
  obtain ⟨v, rfl, a, rfl, ha⟩ := all1 hv
  refine ⟨a, _, rfl, s.dk ha, fun p hp => ?_⟩
  rw [ofD_keys]
  have g : Grow L [] H0 H (upd H0 p (.lst ((ks d).map V.str))) (upd H p (.lst ((ks d).map V.str))) := .alloc s hp
  exact k _ _ _ g ⟨p, _, rfl, upd_same, strs_tl _⟩
theorem rc_tupleD {d : DD} : RC L (fun xs H Q => ∃ (a : Addr) (kvs : List (Key × V)), xs = [.ref a] ∧ Rd H a (.dK kvs) ∧ ∀ p, H p = none → Q (.ref p) (upd H p (.tup (kvs.map fun kv => kV kv.1)))) [Dc d] (TT' (ks d)) := fun xs H H0 s hv Q k => by
  obtain ⟨v, rfl, a, rfl, ha⟩ := all1 hv
  refine ⟨a, _, rfl, s.dk ha, fun p hp => ?_⟩
  rw [ofD_keys]
  have g : Grow L [] H0 H (upd H0 p (.tup ((ks d).map V.str))) (upd H p (.tup ((ks d).map V.str))) := .alloc s hp
  exact k _ _ _ g ⟨p, _, rfl, upd_same, strs_tl _⟩
theorem rc_boolD {d : DD} : RC L (fun xs H Q => ∃ (a : Addr) (kvs : List (Key × V)), xs = [.ref a] ∧ Rd H a (.dK kvs) ∧ Q (.bl (!kvs.isEmpty)) H) [Dc d] (Vl (.bl (!d.isEmpty))) := rc_of fun xs H H0 s hv Q k => by
  obtain ⟨v, rfl, a, rfl, ha⟩ := all1 hv
  refine ⟨a, _, rfl, s.dk ha, k _ ?_⟩
  show V.bl _ = V.bl _
  unfold ofD
  cases d <;> rfl
theorem merge_mk {α : Type} (kf : α → Str) (vf : α → Int) (xs : List α) : mergeK [] (xs.map fun x => ((Sum.inr (kf x) : Key), V.int (vf x))) = ofD (mk kf vf xs) := by
  unfold mk mergeK
  have : ∀ (xs : List α) (d : DD), (xs.map fun x => ((Sum.inr (kf x) : Key), V.int (vf x))).foldl (fun acc kv => putK acc kv.1 kv.2) (ofD d) = ofD (xs.foldl (fun d x => put d (kf x) (vf x)) d) := by
    intro xs
    induction xs with
    | nil => exact fun _ => rfl
    | cons x xs ih =>
      intro d
      rw [List.map_cons, List.foldl_cons, List.foldl_cons, ← ofD_put]
      exact ih _
  exact this xs []
theorem prs_of {α : Type} (kf : α → Str) (vf : α → Int) {H0 H : Hp} (s : Sub L H0 H) : ∀ {vs : List V} {xs : List α}, AllP H0 vs (xs.map fun x => Tp [Vl (.str (kf x)), Vl (.int (vf x))]) → ∃ ps : List Addr, vs = ps.map V.ref ∧ Paired (fun p (kv : Key × V) => SqT K H p [kV kv.1, kv.2]) ps (xs.map fun x => ((Sum.inr (kf x) : Key), V.int (vf x)))
  | [], [], _ => ⟨[], rfl, .nil⟩
  | [], _ :: _, h => h.elim
  | _ :: _, [], h => h.elim
  | v :: vs, x :: xs, h => by
    obtain ⟨⟨p, ws, rfl, hp, hw⟩, h2⟩ := h
    obtain ⟨ps, rfl, hps⟩ := prs_of kf vf s (vs := vs) (xs := xs) h2
    obtain ⟨w1, w2, rfl, e1, e2⟩ := all2 hw
    have e1 : w1 = .str (kf x) := e1
    have e2 : w2 = .int (vf x) := e2
    subst e1 e2
    exact ⟨p :: ps, rfl, .cons (SqT.of (s.tup hp)) hps⟩
theorem rc_dictP {α : Type} (kf : α → Str) (vf : α → Int) (xs : List α) : RC L (fun xs H Q => ∃ (a : Addr) (ps : List Addr) (kvs : List (Key × V)), xs = [.ref a] ∧ SqL K H a (ps.map V.ref) ∧ Paired (fun p kv => SqT K H p [kV kv.1, kv.2]) ps kvs ∧
    ∀ p, H p = none → Q (.ref p) (upd H p (.dK (mergeK [] kvs)))) [Ls (xs.map fun x => Tp [Vl (.str (kf x)), Vl (.int (vf x))])] (Dc (mk kf vf xs)) := fun ys H H0 s hv Q k => by
  obtain ⟨v, rfl, a, vs, rfl, ha, hvs⟩ := all1 hv
  obtain ⟨ps, rfl, hps⟩ := prs_of (K := K) kf vf s hvs
  refine ⟨a, ps, _, rfl, SqL.of (s.lst ha), hps, fun p hp => ?_⟩
  rw [merge_mk]
  have g : Grow L [] H0 H (upd H0 p (.dK (ofD (mk kf vf xs)))) (upd H p (.dK (ofD (mk kf vf xs)))) := .alloc s hp
  exact k _ _ _ g ⟨p, rfl, upd_same⟩
/-- *e of a dict -/
theorem xa_starD {es : List Expr} {Ps : List VP} {d : DD} {p : Pos} (h : XE X L e G M (Dc d) M1) (hs : XA X L es G M1 Ps M2) (hc : X.calm = true := by rfl) (he : starEach (.Starred e p :: es) X.env = (true, eval e X.env) :: starEach es X.env := by rfl) : XA X L (.Starred e p :: es) G M (((ks d).map fun k => Vl (.str k)) ++ Ps) M2 :=
  .of (pa_starD hc pW pWa he) (hs.ad.trans h.ad) fun σ H H0 s l m Q k => h.then_ s l m fun x H1 H01 g1 s1 l1 m1 ⟨pa, ev, hp⟩ => ⟨pa, _, ev, s1.dk hp, hs.then_ s1 l1 m1 fun xs H2 H02 g2 s2 l2 m2 p2 => by
    rw [ofD_keys]
    exact k _ H2 H02 (g1.tr (h.ad ▸ g2)) m2 ((strs_tl _).app p2)⟩
/-- d[k], d.get(k, z) -/
theorem sub_dget {d : DD} {k : Str} {H0 H : Hp} {a : Addr} (s : Sub L H0 H) (h : H0 a = some (.dK (ofD d))) : DGet H a (.str k) ((gv d k).map V.int) := .inl ⟨_, Sum.inr k, s.dk h, rfl, (valV_of d k).symm⟩
theorem xe_dget {d : DD} {k : Str} {v : Int} (hu : X.A.units + 1 < cLine) (ha : XE X L a G M (Dc d) M1) (hb : XE X L b G M1 (Vl (.str k)) M2) (hv : gv d k = some v) (hs : NoSl b := by intro _ _; rfl) : XE X L (.Subscript a b pos) G M (Vl (.int v)) M2 :=
  .of (pe_dget hu pW pW hs) (hb.ad.trans ha.ad) fun σ H H0 s l m Q q => ha.then2 hb s l m fun x y H' H0' g s' _ m' ⟨p, ex, hp⟩ ey => by
    have ey : y = .str k := ey
    subst ey
    have z := sub_dget (k := k) s' hp
    rw [hv] at z
    exact ⟨p, .int v, ex, z, q _ H' H0' g m' rfl⟩
theorem xe_dget2 {d : DD} {k : Str} {z : Int} {e f o : Expr} {apos cpos : Pos} (hu : X.A.units + 1 < cLine) (ho : XE X L o G M (Dc d) M1) (he : XE X L e G M1 (Vl (.str k)) M2) (hf : XE X L f G M2 (Vl (.int z)) M3)
    (m : L2.M2 X o "get" apos e f cpos := by exact ⟨rfl, rfl, rfl, rfl⟩) : XE X L (.Call (.Attribute o "get" apos) [e, f] [] cpos) G M (Vl (.int ((gv d k).getD z))) M3 :=
  .of (pe_dget2 hu pW pW pW m) (hf.ad.trans (he.ad.trans ho.ad)) fun σ H H0 s l m Q q => ho.then_ s l m fun x H1 H01 g1 s1 l1 m1 ⟨p, ex, hp⟩ => ⟨p, ex, .inl ⟨_, s1.dk hp⟩, he.then2 hf s1 l1 m1 fun y w H2 H02 g2 s2 l2 m2 ey ew => by
    have ey : y = .str k := ey
    have ew : w = .int z := ew
    subst ey ew
    refine ⟨_, sub_dget (k := k) s2 (g2.pure _ _ hp), q _ H2 H02 (g1.tr (ho.ad ▸ g2)) m2 ?_⟩
    show ((gv d k).map V.int).getD (.int z) = _
    cases gv d k <;> rfl⟩
theorem rv_eqET {Ps : List VP} : RV L (rEqE K) (Tp Ps) (Tp []) (Vl (.bl Ps.isEmpty)) := rv_of fun x y H H0 s ⟨a, vs, ev, ha, hv⟩ ⟨b, ws, ew, hb, hw⟩ Q k => by
  have : ws = [] := by
    have := hw.len
    cases ws
    · rfl
    · simp at this
  subst this
  refine ⟨a, b, vs, ev, ew, .inl ⟨SqT.of (s.tup ha), SqT.of (s.tup hb)⟩, k _ ?_⟩
  have := hv.len
  show V.bl _ = V.bl _
  congr 1
  cases vs <;> cases Ps <;> simp at this ⊢
theorem rv_eqEL {Ps : List VP} : RV L (rEqE K) (Ls Ps) (Ls []) (Vl (.bl Ps.isEmpty)) := rv_of fun x y H H0 s ⟨a, vs, ev, ha, hv⟩ ⟨b, ws, ew, hb, hw⟩ Q k => by
  have : ws = [] := by
    have := hw.len
    cases ws
    · rfl
    · simp at this
  subst this
  refine ⟨a, b, vs, ev, ew, .inr ⟨SqL.of (s.lst ha), SqL.of (s.lst hb)⟩, k _ ?_⟩
  have := hv.len
  show V.bl _ = V.bl _
  congr 1
  cases vs <;> cases Ps <;> simp at this ⊢
theorem rv_eqDA {d d' : DD} (hl : d.length = d'.length) (h : ∀ q ∈ d, gv d' q.1 = some q.2) (s0 : L = []) : RV L rEqDA (Dc d) (Dc d') (Vl (.bl true)) := rv_of fun x y H H0 s ⟨a, ev, ha⟩ ⟨b, ew, hb⟩ Q k => by
  subst s0
  refine ⟨a, b, _, _, ev, ew, s.ex ha (by simp), s.ex hb (by simp), by unfold ofD; rw [List.length_map, List.length_map, hl], fun p hp => ?_, k _ rfl⟩
  unfold ofD at hp
  obtain ⟨q, hq, rfl⟩ := List.mem_map.mp hp
  refine ⟨?_, rfl⟩
  show valV (ofD d') (Sum.inr q.1) = _
  rw [valV_of, h q hq]
  rfl
/-! ### own instances -/
/-- values that are instances of C -/
def IsI (C : Addr) (P : VP) : Prop := ∀ v H, P.p v H → ∃ a dx fs, v = .ref a ∧ H a = some (.ins C dx fs)
theorem xe_fld {C : Addr} {o : Expr} {f : Str} (ho : XE X L o G M P M1) (hP : ∀ v H, P.p v H → ∃ a dx fs v', v = .ref a ∧ H a = some (.ins C dx fs) ∧ fs.lookup f = some v' ∧ P'.p v' H) (hc : Cls X.K C) (hn : NoAttr X.K C f) (hb : attributeBase o f X.env (eval o X.env) = eval o X.env := by rfl) : XE X L (.Attribute o f pos) G M P' M1 :=
  .of (pe_fld pW hb) ho.ad fun σ H H0 s l m Q k => ho.then_ s l m fun x H1 H01 g1 s1 l1 m1 p1 => by
    obtain ⟨a, dx, fs, v', ex, ha, hl, hv⟩ := hP x H01 p1
    exact ⟨a, C, dx, fs, v', ex, s1.ins ha, hc, hn, hl, k v' H1 H01 g1 m1 hv⟩
theorem sp_p {α : Type} {pre : α → Prop} {As : α → List VP} {R : α → VP} {E : XK} (y : α) (hpre : pre y) {vs : List V} {H H0 : Hp} (s : Sub [] H0 H) (hv : AllP H0 vs (As y)) {Q : VK} (k : ∀ v H' H0', Grow [] [] H0 H H0' H' → (R y).p v H0' → Q v H') : spP pre As R vs H Q E :=
  ⟨y, H0, hpre, s, hv, MO.nil, fun v H' H0' g _ p => k v H' H0' g p⟩
theorem rv_own {C : Addr} {α : Type} {pre : α → Prop} {As : α → List VP} {R : α → VP} (y : α) (hpre : pre y) (hy : As y = [P1, P2]) (h1 : IsI C P1) (h2 : IsI C P2) (hw : ∀ v H, (R y).p v H → P.p v H) : RV [] (rOwn C (spP pre As R)) P1 P2 P := fun x z H H0 s p1 p2 Q k => by
  obtain ⟨a, dx, fs, ex, ha⟩ := h1 x H0 p1
  obtain ⟨b, dy, gs, ez, hb⟩ := h2 z H0 p2
  exact ⟨⟨a, dx, fs, ex, s.ins ha⟩, ⟨b, dy, gs, ez, s.ins hb⟩, sp_p y hpre s (by rw [hy]; exact ⟨p1, p2, trivial⟩) fun v H' H0' g p => k v H' H0' g (hw _ _ p)⟩
theorem rv_ownI {C : Addr} {α : Type} {pre : α → Prop} {As : α → List VP} {R : α → VP} {i : Int} (y : α) (hpre : pre y) (hy : As y = [P1, Vl (.int i)]) (h1 : IsI C P1) (hw : ∀ v H, (R y).p v H → P.p v H) : RV [] (rOwnI C (spP pre As R)) P1 (Vl (.int i)) P := fun x z H H0 s p1 p2 Q k => by
  obtain ⟨a, dx, fs, ex, ha⟩ := h1 x H0 p1
  exact ⟨⟨a, dx, fs, ex, s.ins ha⟩, ⟨i, p2⟩, sp_p y hpre s (by rw [hy]; exact ⟨p1, p2, trivial⟩) fun v H' H0' g p => k v H' H0' g (hw _ _ p)⟩
theorem rv_ownR {C : Addr} {α : Type} {pre : α → Prop} {As : α → List VP} {R : α → VP} {i : Int} (y : α) (hpre : pre y) (hy : As y = [P1, Vl (.int i)]) (h1 : IsI C P1) (hw : ∀ v H, (R y).p v H → P.p v H) : RV [] (rOwnR C (spP pre As R)) (Vl (.int i)) P1 P := fun x z H H0 s p1 p2 Q k => by
  obtain ⟨a, dx, fs, ex, ha⟩ := h1 z H0 p2
  exact ⟨⟨i, p1⟩, ⟨a, dx, fs, ex, s.ins ha⟩, sp_p y hpre s (by rw [hy]; exact ⟨p2, p1, trivial⟩) fun v H' H0' g p => k v H' H0' g (hw _ _ p)⟩
/-- a method of the class at C -/
structure MCal (P : Program) (w : World) (K : PySem.W.Frag) (mg : Str → Option Value) (base : Heap) (k : Nat) (C : Addr) (m : Str) (ps : List Str) (sp : Sp) : Prop where
  ex : ∃ f fd, FnOk P w K mg base CX0 k f fd ps sp ∧ Meth K C m f ∧ Binds K fd ps [] ∧ PySem.W.fnIn K f = true
theorem xe_own {C : Addr} {n : Nat} {ps : List Str} {α : Type} {pre : α → Prop} {As : α → List VP} {R : α → VP} (N : MCal X.prog X.w X.K X.mg X.base n C "__getitem__" ps (spP pre As R)) (hr : Room (n + 1) X.A) (ha : XE X [] a G M P1 M1) (hb : XE X [] b G M1 P2 M2) (y : α) (hpre : pre y) (hy : As y = [P1, P2]) (h1 : IsI C P1) (hw : ∀ v H, (R y).p v H → P.p v H)
    (hsl : ∀ o i, subscripted b true o i = runValue (.builtin "lifetime.subscript" ⟨[o, i], []⟩) := by intro _ _; with_unfolding_all rfl) : XE X [] (.Subscript a b pos) G M P M2 := by
  obtain ⟨f, fd, F, hm, hbd, hf⟩ := N.ex
  exact .of (ix_own hr F hbd hm hf pW pW hsl) (hb.ad.trans ha.ad) fun σ H H0 s l m Q k => ha.then2 hb s l m fun x z H' H0' g s' _ m' p1 p2 => by
    obtain ⟨c, dx, fs, ex, hc⟩ := h1 x H0' p1
    exact ⟨⟨c, dx, fs, ex, s'.ins hc⟩, sp_p y hpre s' (by rw [hy]; exact ⟨p1, p2, trivial⟩) fun v H'' H0'' g' p => k v H'' H0'' (g.tr g'.nil) (m'.grow0 g') (hw _ _ p)⟩
theorem xt_own {C : Addr} {n : Nat} {ps : List Str} {α : Type} {pre : α → Prop} {As : α → List VP} {R : α → VP} {k : Bool} (N : MCal X.prog X.w X.K X.mg X.base n C "__bool__" ps (spP pre As R)) (hr : Room n X.A) (ha : XE X [] e G M P1 M1) (y : α) (hpre : pre y) (hy : As y = [P1]) (h1 : IsI C P1) (hw : ∀ v H, (R y).p v H → v = .bl k)
    (he : ∀ whole, isTrue e X.env whole = (do let v ← whole; standAt e.pos; holding [v] (truthy v)) := by intro _; rfl) : XT X [] e G M (· = k) M1 := by
  obtain ⟨f, fd, F, hm, hbd, hf⟩ := N.ex
  refine ⟨ha.ad, fun σ H H0 s l m Q q pins sh I => isTrue_plain (thn (ha.then_ (Q := fun v H1 => ∃ a dx fs, v = .ref a ∧ H1 a = some (.ins C dx fs) ∧ spP pre As R [v] H1 (fun v H' => ∃ k, v = .bl k ∧ Q k H') E0) s l m (fun v H1 H01 g1 s1 l1 m1 p1 => ?_) pins sh I) fun v s1 ⟨x, H1, I1, r1, a, dx, fs, ex, ha', q1⟩ => ?_) (he _)⟩
  · obtain ⟨a, dx, fs, ex, hc⟩ := h1 v H01 p1
    exact ⟨a, dx, fs, ex, s1.ins hc, sp_p y hpre s1 (by rw [hy]; exact ⟨p1, trivial⟩) fun v H' H0' g p => ⟨k, hw _ _ p, q k H' H0' (g1.tr g.nil) (m1.grow0 g) rfl⟩⟩
  · subst ex
    cases r1
    exact truth_own hr F hbd hm I1 ha' q1
theorem xe_prop {C p g : Addr} {n : Nat} {fd : FuncData} {f : Str} {ps : List Str} {α : Type} {pre : α → Prop} {As : α → List VP} {R : α → VP} {o : Expr} (hp : PropOf X.K C f p g) (F : FnOk X.prog X.w X.K X.mg X.base CX0 n g fd ps (spP pre As R)) (hbd : Binds X.K fd ps []) (hr : Room (n + 1) X.A) (hc : Cls X.K C) (ho : XE X [] o G M P1 M1) (y : α) (hpre : pre y) (hy : As y = [P1]) (h1 : IsI C P1) (hw : ∀ v H, (R y).p v H → P.p v H)
    (hb : attributeBase o f X.env (eval o X.env) = eval o X.env := by rfl) : XE X [] (.Attribute o f pos) G M P M1 :=
  .of (pe_prop (E := E0) pW hc hp F hr hbd .nil pass0 hb) ho.ad fun σ H H0 s l m Q k => ho.then_ s l m fun v H1 H01 g1 s1 l1 m1 p1 => by
    obtain ⟨a, dx, fs, ex, hc'⟩ := h1 v H01 p1
    subst ex
    exact ⟨a, dx, fs, rfl, s1.ins hc', sp_p y hpre s1 (by rw [hy]; exact ⟨p1, trivial⟩) fun v H' H0' g p => k v H' H0' (g1.tr g.nil) (m1.grow0 g) (hw _ _ p)⟩
end
end Y
/-! text S9 -/
set_option Elab.async false
set_option linter.all false
set_option maxRecDepth 100000
namespace Y
open PySem PySem.Spec PyProof.Rows L2
/-! ### instances by their attributes -/
abbrev Fps := List (Str × VP)
def zipF (fps : Fps) (vs : List V) : List (Str × V) := (fps.map Prod.fst).zip vs
theorem lookup_zipF {H : Hp} {f : Str} {P : VP} : ∀ {fps : Fps} {vs : List V}, AllP H vs (fps.map Prod.snd) → fps.lookup f = some P → ∃ v, (zipF fps vs).lookup f = some v ∧ P.p v H
  | [], _, _, h => by cases h
  | (g, Q) :: fps, [], h, _ => h.elim
  | (g, Q) :: fps, v :: vs, h, hl => by
    show ∃ u, List.lookup f ((g, v) :: zipF fps vs) = some u ∧ P.p u H
    rw [List.lookup_cons] at hl ⊢
    by_cases e : (f == g) = true
    · rw [e] at hl ⊢
      have hl : Q = P := Option.some.inj hl
      subst hl
      exact ⟨v, rfl, h.1⟩
    · have e : (f == g) = false := Bool.eq_false_iff.mpr e
      rw [e] at hl ⊢
      exact lookup_zipF (fps := fps) (vs := vs) h.2 hl
theorem putF_zip {f : Str} {y : V} : ∀ {ns : List Str} {vs : List V}, ns.length = vs.length → f ∉ ns → putF f y (ns.zip vs) = (ns ++ [f]).zip (vs ++ [y])
  | [], [], _, _ => rfl
  | [], _ :: _, h, _ => by simp at h
  | _ :: _, [], h, _ => by simp at h
  | g :: ns, v :: vs, h, hn => by
    have ne : ¬ g = f := fun e => hn (by rw [e]; exact .head _)
    show (if g = f then (g, y) :: ns.zip vs else (g, v) :: putF f y (ns.zip vs)) = _
    rw [if_neg ne, putF_zip (by simpa using h) fun z => hn (List.mem_cons_of_mem _ z)]
    rfl
/-- an instance of C that stays -/
def Ins (C : Addr) (fps : Fps) : VP := ⟨fun v H => ∃ a dx vs, v = .ref a ∧ H a = some (.ins C dx (zipF fps vs)) ∧ AllP H vs (fps.map Prod.snd), fun _ _ _ e ⟨a, dx, vs, h1, h2, h3⟩ => ⟨a, dx, vs, h1, e _ _ h2, h3.mono e⟩⟩
/-- an instance that is being made -/
def CI (C dx : Addr) (fps : Fps) : CP := ⟨fun o H => ∃ vs, o = .ins C dx (zipF fps vs) ∧ AllP H vs (fps.map Prod.snd), fun _ _ _ e ⟨vs, h1, h2⟩ => ⟨vs, h1, h2.mono e⟩⟩
theorem ins_isI {C : Addr} {fps : Fps} : IsI C (Ins C fps) := fun v H ⟨a, dx, vs, h1, h2, _⟩ => ⟨a, dx, _, h1, h2⟩
section
variable {X : Cx} {L : List Addr} {e a b c tg iter o : Expr} {G G1 G2 : Gam} {M M1 M2 M3 M' Mw Mf : Ml} {P P1 P2 P3 P' : VP} {pos pos' : Pos} {i j : Nat} {x : Str} {B : Bs} {D : Ends} {rest : List Stmt} {st : Stmt} {K : PySem.W.Frag} {C dx q : Addr} {fps : Fps} {f : Str}
theorem xe_fldI (ho : XE X L o G M (Ins C fps) M1) (hl : fps.lookup f = some P) (hc : Cls X.K C) (hn : NoAttr X.K C f) (hb : attributeBase o f X.env (eval o X.env) = eval o X.env := by rfl) : XE X L (.Attribute o f pos) G M P M1 :=
  xe_fld ho (fun v H ⟨a, dx, vs, h1, h2, h3⟩ => by
    obtain ⟨u, h4, h5⟩ := lookup_zipF h3 hl
    exact ⟨a, dx, _, u, h1, h2, h4, h5⟩) hc hn hb
theorem xe_fldM (ho : XE X L o G ((q, CI C dx fps) :: M) (Rf q) ((q, CI C dx fps) :: M)) (hl : fps.lookup f = some P) (hc : Cls X.K C) (hn : NoAttr X.K C f) (hb : attributeBase o f X.env (eval o X.env) = eval o X.env := by rfl) : XE X L (.Attribute o f pos) G ((q, CI C dx fps) :: M) P ((q, CI C dx fps) :: M) :=
  .of (pe_fld pW hb) ho.ad fun σ H H0 s l m Q k => ho.then_ s l m fun x H1 H01 g1 s1 l1 m1 p1 => by
    obtain ⟨_, ob, h2, vs, h3, h4⟩ := m1.2 (q, CI C dx fps) (.head _)
    obtain ⟨u, h5, h6⟩ := lookup_zipF h4 hl
    have h2 : H1 q = some ob := h2
    rw [h3] at h2
    exact ⟨q, C, dx, _, u, p1, h2, hc, hn, h5, k u H1 H01 g1 m1 h6⟩
theorem xs_fldM (hv : XE X L e G ((q, CI C dx fps) :: M) P ((q, CI C dx fps) :: M)) (ho : XE X L o G ((q, CI C dx fps) :: M) (Rf q) ((q, CI C dx fps) :: M)) (hc : Cls X.K C) (hn : NoAttr X.K C f) (hf : f ∉ fps.map Prod.fst) (hz : fps.length < 1000)
    (hr : XS X L rest B G ((q, CI C dx (fps ++ [(f, P)])) :: M) D) (hs : swapsWith e (some (.Attribute o f pos')) pos.line X.env = pure false := by rfl) : XS X L (.Assign [.Attribute o f pos'] e pos :: rest) B G ((q, CI C dx fps) :: M) D :=
  xs_of (ps_fld pW pW hs) fun σ H ⟨H0, g, l, m, fr⟩ => hv.then2 ho g.sub l m fun y x H1 H01 g1 s1 l1 m1 p1 p2 => by
    obtain ⟨h1, ob, h2, vs, h3, h4⟩ := m1.2 (q, CI C dx fps) (.head _)
    have h2 : H1 q = some ob := h2
    have h1 : H01 q = none := h1
    rw [h3] at h2
    have hlen : (fps.map Prod.fst).length = vs.length := by rw [h4.len, List.length_map, List.length_map]
    have gB : Grow L B.A B.h0 B.h H01 H1 := g.trans g1 fr
    have hq : q ∈ B.A ∨ B.h q = none := fr q (by simp [ads])
    refine ⟨q, C, dx, _, p2, h2, hc, hn, ?_, hr.run _ _ ⟨H01, gB.write h1 hq, l1, ⟨m1.1, fun c hc' => ?_⟩, fr⟩⟩
    · unfold zipF
      rw [List.length_zip, List.length_map]
      omega
    · rcases List.mem_cons.mp hc' with z | z
      · subst z
        refine ⟨h1, _, upd_same, vs ++ [y], ?_, ?_⟩
        · unfold zipF
          rw [putF_zip hlen hf, List.map_append]
          rfl
        · rw [List.map_append]
          exact h4.app (AllP.one p1)
      · obtain ⟨k1, u, k2, k3⟩ := m1.2 c (List.mem_cons_of_mem _ z)
        have ne : c.1 ≠ q := fun e => by
          have nd := m1.1
          rw [show ads ((q, CI C dx fps) :: M) = q :: ads M from rfl] at nd
          exact (List.nodup_cons.mp nd).1 (List.mem_map.mpr ⟨c, z, e⟩)
        exact ⟨k1, u, by rw [upd_ne ne]; exact k2, k3⟩
/-! ### making -/
/-- what __init__ promises: self at x filled -/
def spI {α : Type} (C : Addr) (pre : α → Prop) (As : α → List VP) (Fs : α → Fps) : Sp := spG (α := α × Addr × Addr) (fun y => pre y.1) (fun y => Rf y.2.1 :: As y.1) (fun y => [(y.2.1, CI C y.2.2 [])]) (fun _ => Vl .non) (fun y => [(y.2.1, CI C y.2.2 (Fs y.1))])
/-- the positional promise of a def with a star parameter -/
def spStar (sp : Sp) (n : Nat) : Sp := fun vs H Q E => ∃ ws rest, vs = ws ++ rest ∧ ws.length = n ∧ rest.length ≤ sizeLine ∧ ∀ p, H p = none → sp (ws ++ [V.ref p]) (upd H p (.tup rest)) Q E
def spStarKw (sp : Sp) (n : Nat) : Sp := fun vs H Q E => ∃ ws rest, vs = ws ++ rest ∧ ws.length = n ∧ rest.length ≤ sizeLine ∧ ∀ p d, H p = none → H d = none → d ≠ p → sp (ws ++ [V.ref p, V.ref d]) (upd (upd H p (.tup rest)) d (.dK [])) Q E
/-- the state at a making, in the pure heap -/
theorem made_sub {H0 H : Hp} {x dx : Addr} (s : Sub L H0 H) (hx : H x = none) (hd : H dx = none) (ne : dx ≠ x) : Sub L (upd H0 dx (.own x)) (upd (upd H dx (.own x)) x (.ins C dx [])) ∧ MO [(x, CI C dx [])] (upd H0 dx (.own x)) (upd (upd H dx (.own x)) x (.ins C dx [])) ∧ Same H0 (upd H0 dx (.own x)) := by
  have g : Grow L [] H0 H (upd H0 dx (.own x)) (upd H dx (.own x)) := .alloc s hd
  have h0 : upd H0 dx (.own x) x = none := by
    rw [upd_ne (Ne.symm ne)]
    exact s.no hx
  refine ⟨⟨fun a u e => ?_, g.sub.lk⟩, ⟨by simp [ads], fun c hc => ?_⟩, g.pure⟩
  · rw [upd_ne (ne_of_none e h0)]
    exact g.sub.at_ a u e
  · have hc := List.mem_singleton.mp hc
    subst hc
    exact ⟨h0, _, upd_same, [], rfl, trivial⟩
/-- behind a making: the instance stands -/
theorem made_end {H0 H H0' H' : Hp} {x dx : Addr} (s : Sub [] H0 H) (hx : H x = none) (hd : H dx = none) (ne : dx ≠ x) {H0a Ha : Hp} (sm : Same H0 H0a) (nw : ∀ b, H0a b ≠ none → H0 b ≠ none ∨ H b = none) (kp : ∀ b o, H b = some o → Ha b = some o) (g : Grow [] [x] H0a Ha H0' H') (m : MO [(x, CI C dx fps)] H0' H') (hax : H0a x = none) :
    ∃ H0'', Grow [] [] H0 H H0'' H' ∧ (Ins C fps).p (.ref x) H0'' := by
  obtain ⟨h1, o, h2, vs, h3, h4⟩ := m.2 (x, CI C dx fps) (.head _)
  have h1 : H0' x = none := h1
  have h2 : H' x = some o := h2
  have sm2 : Same H0' (upd H0' x o) := fun b u e => by
    rw [upd_ne (ne_of_none e h1)]
    exact e
  refine ⟨upd H0' x o, ⟨(sm.trans g.pure).trans sm2, ⟨fun a u e => ?_, fun a ha => absurd ha (by simp)⟩, fun b u e _ => ?_, fun b nb => ?_, fun b nb => ?_⟩, x, dx, vs, rfl, by rw [upd_same, h3], h4.mono sm2⟩
  · by_cases z : a = x
    · subst z
      rw [upd_same] at e
      cases e
      exact .inl ⟨by simp, h2⟩
    · rw [upd_ne z] at e
      exact g.sub.at_ a u e
  · exact g.keep b u (kp b u e) fun z => by
      rw [List.mem_singleton.mp z, hx] at e
      cases e
  · by_cases z : b = x
    · rw [z]
      exact .inr hx
    · rw [upd_ne z] at nb
      rcases g.new b nb with y | y
      · exact nw b y
      · refine .inr ?_
        cases e : H b with
        | none => rfl
        | some u =>
          rw [kp b u e] at y
          cases y
  · cases e : H b with
    | none => exact absurd e nb
    | some u => exact g.live b (by rw [kp b u e]; simp)
theorem made_frame {H0 H H0' H' : Hp} {M : Ml} (m : MO M H0 H) (g : Grow [] [] H0 H H0' H') : MO M H0' H' := m.grow0 g
/-- a class whose __init__ takes *args -/
structure ICal (P : Program) (w : World) (K : PySem.W.Frag) (mg : Str → Option Value) (base : Heap) (k : Nat) (x : Str) (C : Addr) (sp : Sp) : Prop where
  ex : ∃ f, FnR P w K mg base CX0 k f sp ∧ Mk K C f ∧ mg x = some (.ref C)
theorem sp_make {α : Type} {pre : α → Prop} {As : α → List VP} {Fs : α → Fps} {Ps : List VP} (y : α) (hpre : pre y) (hy : As y = [Tp Ps]) (hz : Ps.length ≤ sizeLine) {vs : List V} {H1 H01 : Hp} (s1 : Sub [] H01 H1) (hv : AllP H01 vs Ps) {Q : VK} (k : ∀ v H' H0', Grow [] [] H01 H1 H0' H' → (Ins C (Fs y)).p v H0' → Q v H') :
    ∀ x dx, H1 x = none → H1 dx = none → dx ≠ x → spStar (spI C pre As Fs) 1 (V.ref x :: vs) (upd (upd H1 dx (.own x)) x (.ins C dx [])) (fun v H2 => v = .non ∧ Q (.ref x) H2) E0 := by
  intro x dx hx hd ne
  obtain ⟨sA, mA, smA⟩ := made_sub (C := C) s1 hx hd ne
  refine ⟨[.ref x], vs, rfl, rfl, by rw [hv.len]; exact hz, fun p hp => ?_⟩
  have g : Grow [] [] _ _ (upd (upd H01 dx (.own x)) p (.tup vs)) (upd (upd (upd H1 dx (.own x)) x (.ins C dx [])) p (.tup vs)) := .alloc sA hp
  have px : p ≠ x := fun e => by
    rw [e, upd_same] at hp
    cases hp
  have pdx : p ≠ dx := fun e => by
    rw [e, upd_ne ne, upd_same] at hp
    cases hp
  have hp1 : H1 p = none := by
    rw [upd_ne px, upd_ne pdx] at hp
    exact hp
  refine ⟨(y, x, dx), _, hpre, g.sub, ⟨rfl, ?_⟩, mA.grow0 g, fun v H' H0' gg mm pv => ⟨pv, ?_⟩⟩
  · rw [hy]
    exact ⟨⟨p, vs, rfl, upd_same, (hv.mono smA).mono g.pure⟩, trivial⟩
  · have nw : ∀ b, upd (upd H01 dx (.own x)) p (.tup vs) b ≠ none → H01 b ≠ none ∨ H1 b = none := fun b nb => by
      by_cases z : b = p
      · rw [z]
        exact .inr hp1
      · rw [upd_ne z] at nb
        by_cases z2 : b = dx
        · rw [z2]
          exact .inr hd
        · rw [upd_ne z2] at nb
          exact .inl nb
    have kp : ∀ b u, H1 b = some u → upd (upd (upd H1 dx (.own x)) x (.ins C dx [])) p (.tup vs) b = some u := fun b u e => by
      rw [upd_ne (fun z => by rw [z, hp1] at e; cases e), upd_ne (fun z => by rw [z, hx] at e; cases e), upd_ne (fun z => by rw [z, hd] at e; cases e)]
      exact e
    have hx0 : upd (upd H01 dx (.own x)) p (.tup vs) x = none := by
      rw [upd_ne (Ne.symm px), upd_ne (Ne.symm ne)]
      exact s1.no hx
    obtain ⟨H0'', g2, hi⟩ := made_end (fps := Fs y) s1 hx hd ne (smA.trans g.pure) nw kp gg mm hx0
    exact k _ _ _ g2 hi
theorem sp_makeKw {α : Type} {pre : α → Prop} {As : α → List VP} {Fs : α → Fps} {Ps : List VP} (y : α) (hpre : pre y) (hy : As y = [Tp Ps, Dc []]) (hz : Ps.length ≤ sizeLine) {vs : List V} {H1 H01 : Hp} (s1 : Sub [] H01 H1) (hv : AllP H01 vs Ps) {Q : VK} (k : ∀ v H' H0', Grow [] [] H01 H1 H0' H' → (Ins C (Fs y)).p v H0' → Q v H') :
    ∀ x dx, H1 x = none → H1 dx = none → dx ≠ x → spStarKw (spI C pre As Fs) 1 (V.ref x :: vs) (upd (upd H1 dx (.own x)) x (.ins C dx [])) (fun v H2 => v = .non ∧ Q (.ref x) H2) E0 := by
  intro x dx hx hd ne
  obtain ⟨sA, mA, smA⟩ := made_sub (C := C) s1 hx hd ne
  refine ⟨[.ref x], vs, rfl, rfl, by rw [hv.len]; exact hz, fun p d hp hd2 dp => ?_⟩
  have g : Grow [] [] _ _ (upd (upd H01 dx (.own x)) p (.tup vs)) (upd (upd (upd H1 dx (.own x)) x (.ins C dx [])) p (.tup vs)) := .alloc sA hp
  have hd3 : upd (upd (upd H1 dx (.own x)) x (.ins C dx [])) p (.tup vs) d = none := by
    rw [upd_ne dp]
    exact hd2
  have gd : Grow [] [] _ _ (upd (upd (upd H01 dx (.own x)) p (.tup vs)) d (.dK [])) (upd (upd (upd (upd H1 dx (.own x)) x (.ins C dx [])) p (.tup vs)) d (.dK [])) := .alloc g.sub hd3
  have px : p ≠ x := fun e => by
    rw [e, upd_same] at hp
    cases hp
  have pdx : p ≠ dx := fun e => by
    rw [e, upd_ne ne, upd_same] at hp
    cases hp
  have hp1 : H1 p = none := by
    rw [upd_ne px, upd_ne pdx] at hp
    exact hp
  have dx' : d ≠ x := fun e => by
    rw [e, upd_same] at hd2
    cases hd2
  have ddx : d ≠ dx := fun e => by
    rw [e, upd_ne ne, upd_same] at hd2
    cases hd2
  have hd1 : H1 d = none := by
    rw [upd_ne dx', upd_ne ddx] at hd2
    exact hd2
  refine ⟨(y, x, dx), _, hpre, gd.sub, ⟨rfl, ?_⟩, (mA.grow0 g).grow0 gd, fun v H' H0' gg mm pv => ⟨pv, ?_⟩⟩
  · rw [hy]
    refine ⟨⟨p, vs, rfl, gd.pure _ _ upd_same, ((hv.mono smA).mono g.pure).mono gd.pure⟩, ⟨d, rfl, upd_same⟩, trivial⟩
  · have nw : ∀ b, upd (upd (upd H01 dx (.own x)) p (.tup vs)) d (.dK []) b ≠ none → H01 b ≠ none ∨ H1 b = none := fun b nb => by
      by_cases z0 : b = d
      · rw [z0]
        exact .inr hd1
      · rw [upd_ne z0] at nb
        by_cases z : b = p
        · rw [z]
          exact .inr hp1
        · rw [upd_ne z] at nb
          by_cases z2 : b = dx
          · rw [z2]
            exact .inr hd
          · rw [upd_ne z2] at nb
            exact .inl nb
    have kp : ∀ b u, H1 b = some u → upd (upd (upd (upd H1 dx (.own x)) x (.ins C dx [])) p (.tup vs)) d (.dK []) b = some u := fun b u e => by
      rw [upd_ne (fun z => by rw [z, hd1] at e; cases e), upd_ne (fun z => by rw [z, hp1] at e; cases e), upd_ne (fun z => by rw [z, hx] at e; cases e), upd_ne (fun z => by rw [z, hd] at e; cases e)]
      exact e
    have hx0 : upd (upd (upd H01 dx (.own x)) p (.tup vs)) d (.dK []) x = none := by
      rw [upd_ne (Ne.symm dx'), upd_ne (Ne.symm px), upd_ne (Ne.symm ne)]
      exact s1.no hx
    obtain ⟨H0'', g2, hi⟩ := made_end (fps := Fs y) s1 hx hd ne ((smA.trans g.pure).trans gd.pure) nw kp gg mm hx0
    exact k _ _ _ g2 hi
end
end Y
/-! text SA -/
set_option Elab.async false
set_option linter.all false
set_option maxRecDepth 100000
namespace Y
open PySem PySem.Spec PyProof.Rows L2
section
variable {X : Cx} {L : List Addr} {e a b c tg iter o : Expr} {G G1 G2 : Gam} {M M1 M2 M3 M' Mw Mf : Ml} {P P1 P2 P3 P' : VP} {pos pos' p apos : Pos} {i j k : Nat} {x m : Str} {C q g : Addr} {es : List Expr} {Ps : List VP} {sp : Sp} {mc : Value}
/-- C(e, ..), C(), by the promise of an __init__ with a star parameter -/
theorem xe_makeI {α : Type} {pre : α → Prop} {As : α → List VP} {Fs : α → Fps} (N : ICal X.prog X.w X.K X.mg X.base k x C (spStar (spI C pre As Fs) 1)) (hr : Room (k + 1) X.A) (ha : XA X [] (e :: es) G M Ps M1) (y : α) (hpre : pre y) (hy : As y = [Tp Ps]) (hz : Ps.length ≤ sizeLine) (hg : Gl X x := by rfl) (hdb : (x == ("__debug__" : Str)) = false := by decide)
    (he : starEach (e :: es) X.env = (false, eval e X.env) :: starEach es X.env := by rfl) (hpl : (backTo pos (starEach es X.env)).any (·.1) = false := by rfl) : XE X [] (.Call (.Name x p) (e :: es) [] pos) G M (Ins C (Fs y)) M1 := by
  obtain ⟨f, F, mk, hm⟩ := N.ex
  exact .of (StX.pe_makeR (E := E0) mk F hr hg hm pass0 pWa hdb he hpl) ha.ad fun σ H H0 s l m Q k => ha.then_ s l m fun vs H1 H01 g1 s1 l1 m1 p1 => sp_make y hpre hy hz s1 p1 fun v H' H0' g2 p2 => k v H' H0' (g1.tr g2.nil) (m1.grow0 g2) p2
theorem pe_makeR0 {f : Addr} (mk : Mk X.K C f) (F : FnR X.prog X.w X.K X.mg X.base CX0 k f sp) (hr : Room (k + 1) X.A) (hg : Gl X x) (hm : X.mg x = some (.ref C)) (hdb : (x == ("__debug__" : Str)) = false) : PE X (.Call (.Name x p) [] [] pos) (StX.tMakeR C sp E0 tNil) := by
  refine ⟨fun pins s σ H Q I h => ?_⟩
  refine wpAny_Call_Name_kw (ld_glob I hg hm ?_ hdb)
  exact PySem.W.callWith_K0 I.kIn mk.kp (StX.run_makeR (us := []) mk F hr pass0 I .nil h)
theorem xe_makeI0 {α : Type} {pre : α → Prop} {As : α → List VP} {Fs : α → Fps} (N : ICal X.prog X.w X.K X.mg X.base k x C (spStar (spI C pre As Fs) 1)) (hr : Room (k + 1) X.A) (y : α) (hpre : pre y) (hy : As y = [Tp []]) (hg : Gl X x := by rfl) (hdb : (x == ("__debug__" : Str)) = false := by decide) : XE X [] (.Call (.Name x p) [] [] pos) G M (Ins C (Fs y)) M := by
  obtain ⟨f, F, mk, hm⟩ := N.ex
  exact .of (pe_makeR0 mk F hr hg hm hdb) rfl fun σ H H0 s l m Q k => sp_make (Ps := []) y hpre hy (Nat.zero_le _) s (vs := []) trivial fun v H' H0' g2 p2 => k v H' H0' g2.nil (m.grow0 g2) p2
/-- .. with star parameters of both kinds -/
theorem xe_makeK {α : Type} {pre : α → Prop} {As : α → List VP} {Fs : α → Fps} (N : ICal X.prog X.w X.K X.mg X.base k x C (spStarKw (spI C pre As Fs) 1)) (hr : Room (k + 1) X.A) (ha : XA X [] (e :: es) G M Ps M1) (y : α) (hpre : pre y) (hy : As y = [Tp Ps, Dc []]) (hz : Ps.length ≤ sizeLine) (hg : Gl X x := by rfl) (hdb : (x == ("__debug__" : Str)) = false := by decide)
    (he : starEach (e :: es) X.env = (false, eval e X.env) :: starEach es X.env := by rfl) (hpl : (backTo pos (starEach es X.env)).any (·.1) = false := by rfl) : XE X [] (.Call (.Name x p) (e :: es) [] pos) G M (Ins C (Fs y)) M1 := by
  obtain ⟨f, F, mk, hm⟩ := N.ex
  exact .of (StX.pe_makeR (E := E0) mk F hr hg hm pass0 pWa hdb he hpl) ha.ad fun σ H H0 s l m Q k => ha.then_ s l m fun vs H1 H01 g1 s1 l1 m1 p1 => sp_makeKw y hpre hy hz s1 p1 fun v H' H0' g2 p2 => k v H' H0' (g1.tr g2.nil) (m1.grow0 g2) p2
theorem xe_makeK0 {α : Type} {pre : α → Prop} {As : α → List VP} {Fs : α → Fps} (N : ICal X.prog X.w X.K X.mg X.base k x C (spStarKw (spI C pre As Fs) 1)) (hr : Room (k + 1) X.A) (y : α) (hpre : pre y) (hy : As y = [Tp [], Dc []]) (hg : Gl X x := by rfl) (hdb : (x == ("__debug__" : Str)) = false := by decide) : XE X [] (.Call (.Name x p) [] [] pos) G M (Ins C (Fs y)) M := by
  obtain ⟨f, F, mk, hm⟩ := N.ex
  exact .of (pe_makeR0 mk F hr hg hm hdb) rfl fun σ H H0 s l m Q k => sp_makeKw (Ps := []) y hpre hy (Nat.zero_le _) s (vs := []) trivial fun v H' H0' g2 p2 => k v H' H0' g2.nil (m.grow0 g2) p2
/-- c(e, ..), c a local that holds the class -/
theorem pe_makeL {f : Addr} {tf : TE} {t : TA} (hf : PE X o tf) (mk : Mk X.K C f) (F : FnR X.prog X.w X.K X.mg X.base CX0 k f sp) (hr : Room (k + 1) X.A) (ha : PA X (e :: es) t)
    (ht : eval (.Call o (e :: es) [] pos) X.env = (do callWith pos (← eval o X.env) [] (backTo pos (starEach (e :: es) X.env)) (backToKw pos (keywordEach [] X.env))))
    (he : starEach (e :: es) X.env = (false, eval e X.env) :: starEach es X.env) (hpl : (backTo pos (starEach es X.env)).any (·.1) = false) : PE X (.Call o (e :: es) [] pos) (fun σ H Q => tf σ H fun y H1 => y = V.ref C ∧ StX.tMakeR C sp E0 t σ H1 Q) := by
  refine ⟨fun pins s σ H Q I h => ?_⟩
  refine Call_ (thn (hf.run pins s σ H _ I h) fun u s1 ⟨y, H1, I1, ry, ey, q⟩ => ?_) ht
  subst ey
  obtain rfl : u = Value.ref C := ry
  refine PySem.W.callWith_K (h₀ := X.base) I.ok.mod.kin mk.kp (thn (ha.run pos pins s1 σ H1 _ I1 q) fun us s2 ⟨vs, H2, I2, r, q2⟩ => ⟨I2.kIn, ?_⟩) he hpl
  exact StX.run_makeR mk F hr pass0 I2 r q2
theorem xe_makeL {α : Type} {pre : α → Prop} {As : α → List VP} {Fs : α → Fps} (N : ICal X.prog X.w X.K X.mg X.base k x C (spStarKw (spI C pre As Fs) 1)) (hr : Room (k + 1) X.A) (ho : XE X [] o G M (Rf C) M) (ha : XA X [] (e :: es) G M Ps M1) (y : α) (hpre : pre y) (hy : As y = [Tp Ps, Dc []]) (hz : Ps.length ≤ sizeLine)
    (ht : eval (.Call o (e :: es) [] pos) X.env = (do callWith pos (← eval o X.env) [] (backTo pos (starEach (e :: es) X.env)) (backToKw pos (keywordEach [] X.env))) := by rfl)
    (he : starEach (e :: es) X.env = (false, eval e X.env) :: starEach es X.env := by rfl) (hpl : (backTo pos (starEach es X.env)).any (·.1) = false := by rfl) : XE X [] (.Call o (e :: es) [] pos) G M (Ins C (Fs y)) M1 := by
  obtain ⟨f, F, mk, hm⟩ := N.ex
  exact .of (pe_makeL pW mk F hr pWa ht he hpl) ha.ad fun σ H H0 s l m Q k => ho.then_ s l m fun v H1 H01 g1 s1 l1 m1 ev => ⟨ev, ha.then_ s1 l1 m1 fun vs H2 H02 g2 s2 l2 m2 p2 => sp_makeKw y hpre hy hz s2 p2 fun v H' H0' g3 p3 => k v H' H0' ((g1.tr g2).tr g3.nil) (m2.grow0 g3) p3⟩
/-- a classmethod, a staticmethod -/
structure KCal (P : Program) (w : World) (K : PySem.W.Frag) (mg : Str → Option Value) (base : Heap) (k : Nat) (C : Addr) (m : Str) (sp : Sp) : Prop where
  ex : ∃ mc p g, ClX.CRead K C mc ∧ ClX.CMet K C mc m p g ∧ FnR P w K mg base CX0 k g sp
theorem xe_cmeth {α : Type} {pre : α → Prop} {As : α → List VP} {R : α → VP} {pl : Sem Bool} (N : KCal X.prog X.w X.K X.mg X.base k C m (spP pre As R)) (hr : Room k X.A) (ho : XE X [] o G M (Rf C) M) (ha : XA X [] (e :: es) G M Ps M1) (y : α) (hpre : pre y) (hy : As y = Rf C :: Ps) (hw : ∀ v H, (R y).p v H → P.p v H)
    (hst : starEach (e :: es) X.env = (false, eval e X.env) :: starEach es X.env := by rfl) (hpl : (backTo pos (starEach es X.env)).any (·.1) = false := by rfl)
    (ht : eval (.Call (.Attribute o m apos) (e :: es) [] pos) X.env = (do let ov ← eval o X.env; standAt apos.atName; let (f, first) ← holding [ov] (getMethod ov m pl); callWith pos f first (backTo pos (starEach (e :: es) X.env)) (backToKw pos (keywordEach [] X.env))) := by rfl) : XE X [] (.Call (.Attribute o m apos) (e :: es) [] pos) G M P M1 := by
  obtain ⟨mc, p, g, cr, cm, F⟩ := N.ex
  exact .of (ClX.pe_cmeth (E := E0) pW cr cm F hr pass0 pWa hst hpl ht) ha.ad fun σ H H0 s l m Q k => ho.then_ s l m fun v H1 H01 g1 s1 l1 m1 ev => ⟨ev, ha.then_ s1 l1 m1 fun vs H2 H02 g2 s2 l2 m2 p2 => sp_p y hpre s2 (by rw [hy]; exact ⟨rfl, p2⟩) fun v H' H0' g3 p3 => k v H' H0' ((g1.tr g2).tr g3.nil) (m2.grow0 g3) (hw _ _ p3)⟩
structure SCal (P : Program) (w : World) (K : PySem.W.Frag) (mg : Str → Option Value) (base : Heap) (k : Nat) (C : Addr) (m : Str) (sp : Sp) : Prop where
  ex : ∃ mc p g, ClX.CRead K C mc ∧ PySem.W.findCls K (.ref C) mc m = some (.get (.builtin "staticmethod.__get__") (.ref p) .none (.ref C)) ∧ (∃ rest, PySem.W.recIn K p "staticmethod" = some (.ref g :: rest)) ∧ PySem.W.keepIn K (.ref g) = true ∧ FnR P w K mg base CX0 k g sp
theorem pe_sm {ta te : TE} {p2 : Pos} (N : SCal X.prog X.w X.K X.mg X.base k C m sp) (hr : Room k X.A) (ho : PE X o ta) (he : PE X e te) (hbase : attributeBase o m X.env (eval o X.env) = eval o X.env) :
    PE X (.Call (.Attribute o m apos) [.Starred e p2] [] pos) (fun σ H Q => ta σ H fun x H1 => x = V.ref C ∧ te σ H1 fun y H2 => ∃ a xs, y = V.ref a ∧ (SqT X.K H2 a xs ∨ SqL X.K H2 a xs) ∧ sp xs H2 Q E0) := by
  obtain ⟨mc, p, g, cr, hat, ⟨rest, hp⟩, hk, F⟩ := N.ex
  refine ⟨fun pins s σ H Q I h => ?_⟩
  refine starcall_of hbase (thn (ho.run pins s σ H _ I h) fun u s1 ⟨x, H1, I1, rx, ex, q⟩ => ?_)
  subst ex
  obtain rfl : u = Value.ref C := rx
  refine PySem.W.cls_bind I1.kIn cr.rd hat (wpAny_call (PySem.W.sm_get (s := { s1 with toks := s1.toks + 1 }) I1.kIn hp (PySem.W.handed_on rfl ?_)))
  have I1' := I1.tok (s1.toks + 1)
  refine PySem.W.ks_call (P := fun h => X.K.In h) rfl (PySem.W.keeps_K hk) (PySem.W.ks_lone ?_)
  refine thn (he.run pins _ σ H1 _ I1' q) fun v s3 ⟨y, H2, I3, ry, a, vs, ey, ht, hsp⟩ => ?_
  subst ey
  obtain rfl : v = Value.ref a := ry
  refine StX.star_any I3 ht fun us s4 I4 rv => ⟨I4.kIn, ?_⟩
  exact wpAny_call (run_fnR F hr pass0 I4 rv hsp)
end
end Y
/-! text SB -/
set_option Elab.async false
set_option linter.all false
set_option maxRecDepth 100000
namespace Y
open PySem PySem.Spec PyProof.Rows L2
section
variable {X : Cx} {L : List Addr} {e a b c tg iter o : Expr} {G G1 G2 : Gam} {M M1 M2 M3 M' Mw Mf : Ml} {P P1 P2 P3 P' : VP} {pos pos' p apos : Pos} {i j k : Nat} {x m : Str} {C q g : Addr} {es : List Expr} {Ps : List VP} {sp : Sp} {mc : Value} {K : PySem.W.Frag}
theorem xe_gl {v : V} {u : Value} (hm : X.mg x = some u) (r : RelV v u) (hg : Gl X x := by rfl) (hd : (x == ("__debug__" : Str)) = false := by decide) : XE X L (.Name x pos) G M (Vl v) M := xe_c (pe_glob hg hm r hd)
theorem xe_bt {v : V} {u : Value} (hm : X.mg x = none) (hv : bootBuiltins x = some u) (r : RelV v u) (hg : Gl X x := by rfl) (hn : x ≠ "__name__" := by decide) (hd : (x == ("__debug__" : Str)) = false := by decide) : XE X L (.Name x pos) G M (Vl v) M := xe_c (pe_bltn hg hm hv r hn hd)
/-- isinstance -/
theorem rc_isi {c : V} {t u : Value} {b : Bool} (hc : ClsV c u) (ht : ∀ v H H0, Sub L H0 H → P.p v H0 → TyX K H v t) (hk : PySem.W.kitOne K t u = some b) : RC L (rIsi K) [P, Vl c] (Vl (.bl b)) := rc_of fun xs H H0 s hv Q k => by
  obtain ⟨v, w, rfl, p1, p2⟩ := all2 hv
  have p2 : w = c := p2
  subst p2
  exact ⟨v, w, t, u, b, rfl, hc, ht v H H0 s p1, hk, k _ rfl⟩
theorem ty_int {i : Int} : ∀ v H H0, Sub L H0 H → (Vl (.int i)).p v H0 → TyX K H v (.type "int") := fun v H H0 s e => by
  have e : v = .int i := e
  subst e
  exact .base (.int i)
theorem ty_str {z : Str} : ∀ v H H0, Sub L H0 H → (Vl (.str z)).p v H0 → TyX K H v (.type "str") := fun v H H0 s e => by
  have e : v = .str z := e
  subst e
  exact .base (.str z)
theorem ty_non : ∀ v H H0, Sub L H0 H → (Vl .non).p v H0 → TyX K H v (.type "NoneType") := fun v H H0 s e => by
  have e : v = .non := e
  subst e
  exact .base .non
theorem ty_lst : ∀ v H H0, Sub L H0 H → (Ls Ps).p v H0 → TyX K H v (.type "list") := fun v H H0 s ⟨a, vs, e, ha, _⟩ => by
  subst e
  exact .base (.lst (s.lst ha))
theorem ty_tup : ∀ v H H0, Sub L H0 H → (Tp Ps).p v H0 → TyX K H v (.type "tuple") := fun v H H0 s ⟨a, vs, e, ha, _⟩ => by
  subst e
  exact .base (.tup (s.tup ha))
theorem ty_dc {d : DD} : ∀ v H H0, Sub L H0 H → (Dc d).p v H0 → TyX K H v (.type "dict") := fun v H H0 s ⟨a, e, ha⟩ => by
  subst e
  rcases s.dk ha with h | ⟨o, h⟩
  · exact .base (.dK h)
  · exact .fDict h
/-- what isinstance asks of a class -/
structure InK (K : PySem.W.Frag) (C : Addr) : Prop where
  cl : Cls K C
  ha : PySem.W.findIn K (.ref C) "__class__" = some (some (.builtin "object.__class__"))
  hn : PySem.W.specialIn K (.builtin "object.__class__") "__get__" = some (some (.builtin "getset_descriptor.__get__"))
  ht : PySem.W.takesIn K (.builtin "object.__class__") = some true
  hm : PySem.W.mroIn K C (.type "object") = some true
theorem ty_ins {fps : Fps} (k : InK K C) : ∀ v H H0, Sub L H0 H → (Ins C fps).p v H0 → TyX K H v (.ref C) := fun v H H0 s ⟨a, dx, vs, e, ha, _⟩ => by
  subst e
  exact .base (.ins (s.ins ha) k.cl k.ha k.hn k.ht k.hm)
theorem kit_same {t : Value} : PySem.W.kitOne K t t = some true := by
  unfold PySem.W.kitOne
  simp
theorem kit_ib : PySem.W.kitOne K (.type "int") (.type "bool") = some false := by kernel_rfl
/-- the signs of a text, walked -/
theorem xi_str {z : Str} (he : XE X L e G M (Vl (.str z)) M1) : XI X L tg e G M (z.cps.toList.map fun n => Vl (.str ⟨#[n]⟩)) M1 [] := ⟨he.ad, _, pi_str pW, fun σ H H0 s l m R k => he.then_ s l m fun v H1 H01 g1 s1 l1 m1 ev => by
  have w : Walk (Its z) (z.cps.toList.map fun n => Vl (.str ⟨#[n]⟩)).length (fun _ => True) (fun i H v H' => H' = H ∧ ∃ c, z.cps[i]? = some c ∧ v = .str ⟨#[c]⟩) := by
    have q := walk_str (z := z)
    rw [show z.cps.size = (z.cps.toList.map fun n => Vl (.str ⟨#[n]⟩)).length by rw [List.length_map, Array.length_toList]] at q
    exact q
  refine ⟨z, ev, k _ H1 H01 _ _ g1 m1 w (fun _ _ _ _ => trivial) fun i Hx z' Hy H0x hi gx hy => ?_⟩
  obtain ⟨rfl, c, h1, rfl⟩ := hy
  exact ⟨H0x, _, .refl gx.sub, by rw [List.getElem?_map, Array.getElem?_toList, h1]; rfl, rfl⟩⟩
theorem rv_inS {n : Nat} {z : Str} : RV L (fun x y H Q => ∃ (c : Nat) (z : Str), x = .str ⟨#[c]⟩ ∧ y = .str z ∧ Q (.bl (decide (c ∈ z.cps.toList))) H) (Vl (.str ⟨#[n]⟩)) (Vl (.str z)) (Vl (.bl (decide (n ∈ z.cps.toList)))) := rv_of fun x y H H0 s p1 p2 Q k => ⟨n, z, p1, p2, k _ rfl⟩
theorem rc_lenS {z : Str} (h : z.length ≤ sizeLine) : RC L (fun xs H Q => ∃ x n, xs = [x] ∧ LenV K x H n ∧ Q (.int n) H) [Vl (.str z)] (Vl (.int (z.length : Int))) := rc_of fun xs H H0 s hv Q k => by
  obtain ⟨v, rfl, e⟩ := all1 hv
  have e : v = .str z := e
  subst e
  exact ⟨_, z.length, rfl, ⟨h, rfl⟩, k _ rfl⟩
end
end Y
/-! text SC -/
set_option Elab.async false
set_option linter.all false
set_option maxRecDepth 100000
namespace Y
open PySem PySem.Spec PyProof.Rows L2
/-! ### defs with star parameters -/
section
variable {P : Program} {w : World} {K : PySem.W.Frag} {mg : Str → Option Value} {base : Heap}
theorem fnR_of {k : Nat} {f : Addr} {fd : FuncData} {ps : List Str} {sp : Sp} (F : FnOk P w K mg base CX0 k f fd ps sp) (hb : Binds K fd ps []) : FnR P w K mg base CX0 k f sp := fun A outer s H us vs Q E hr e0 r hsp => by
  have KX : K.In s.heap := e0.mod.kin.keeps fun b o e => (e0.bs b o e).1
  have hl := F.len _ _ _ _ hsp
  refine F.run A outer s H ⟨us, []⟩ us vs Q E hr e0 ?_ r hsp
  have := hb s us KX (by rw [List.append_nil, ← r.length]; exact hl)
  simpa using this
theorem fnR_star {α : Type} {pre : α → Prop} {As : α → List VP} {Mi Mo : α → Ml} {R : α → VP} {x qual pv : Str} {st : Stmt} {f : Addr} {fd : FuncData} {N ps : List Str} {k : Nat} (F : Fun K x qual st f fd) (S : FnScope N (ps ++ [pv]) (defScope st))
    (hb : ∀ (kV doc pm : Value) (an : Option Addr) (cdv ct : Value) (us rest : List Value), us.length = ps.length → bindArgs (PySem.W.fnOf x qual (defArgs st) (defBody st) (defScope st) .none kV doc pm an cdv ct) ⟨us ++ rest, []⟩ = (newTuple rest >>= fun t => pure (ps.zip us ++ [(pv, t)])))
    (h : ∀ a, pre a → ∀ (cdv : Value) (A : Around) (outer : List Env) (s : Shared) (H : Hp) (E : XK) (B : Bs) (D : Ends), B.A = ads (Mi a) → Room k (dA qual st f cdv A s) → (∀ v H, rtA [] B (R a) (Mo a) v H → D.rt v H) → (∀ σ H, D.rt .non H → D.nx σ H) →
      XS (dX P w K mg base N qual st f cdv A outer s H E) [] (defBody st) B (startG N (As a)) (Mi a) D) : FnR P w K mg base CX0 (k + 1) f (spStar (spG pre As Mi R Mo) ps.length) := by
  obtain ⟨oc, od, kV, doc, pm, an, cdv, ct, osl, rfl, lk, hcd⟩ := F.ex
  refine StX.fn_star lk hcd S StX.cxUp_none (hb kV doc pm an cdv ct) fun A outer s H vs Q E hr ⟨a, H0, pa, sb, hv, mo, k⟩ => ?_
  have hb := h a pa cdv A outer s H E ⟨H0, H, ads (Mi a)⟩ { nx := fun _ H' => Q .non H', rt := Q } rfl hr (fun v H' ⟨H0', g, p, m⟩ => k v H' H0' g m p) (fun _ _ q => q)
  exact ⟨_, PSs.nox pWs, hb.run _ H ⟨H0, .refl sb, start_SL hv, mo, fun b hb => .inl hb⟩⟩
theorem fnR_starkw {α : Type} {pre : α → Prop} {As : α → List VP} {Mi Mo : α → Ml} {R : α → VP} {x qual pv pd : Str} {st : Stmt} {f : Addr} {fd : FuncData} {N ps : List Str} {k : Nat} (F : Fun K x qual st f fd) (S : FnScope N (ps ++ [pv, pd]) (defScope st))
    (hb : ∀ (kV doc pm : Value) (an : Option Addr) (cdv ct : Value) (us rest : List Value), us.length = ps.length → bindArgs (PySem.W.fnOf x qual (defArgs st) (defBody st) (defScope st) .none kV doc pm an cdv ct) ⟨us ++ rest, []⟩ = (newTuple rest >>= fun t => (alloc ({ cls := .type "dict", data := .dict #[] } : Obj) : Sem Addr) >>= fun d => pure (ps.zip us ++ [(pv, t), (pd, Value.ref d)])))
    (h : ∀ a, pre a → ∀ (cdv : Value) (A : Around) (outer : List Env) (s : Shared) (H : Hp) (E : XK) (B : Bs) (D : Ends), B.A = ads (Mi a) → Room k (dA qual st f cdv A s) → (∀ v H, rtA [] B (R a) (Mo a) v H → D.rt v H) → (∀ σ H, D.rt .non H → D.nx σ H) →
      XS (dX P w K mg base N qual st f cdv A outer s H E) [] (defBody st) B (startG N (As a)) (Mi a) D) : FnR P w K mg base CX0 (k + 1) f (spStarKw (spG pre As Mi R Mo) ps.length) := by
  obtain ⟨oc, od, kV, doc, pm, an, cdv, ct, osl, rfl, lk, hcd⟩ := F.ex
  refine StX.fn_starkw lk hcd S StX.cxUp_none (hb kV doc pm an cdv ct) fun A outer s H vs Q E hr ⟨a, H0, pa, sb, hv, mo, k⟩ => ?_
  have hb := h a pa cdv A outer s H E ⟨H0, H, ads (Mi a)⟩ { nx := fun _ H' => Q .non H', rt := Q } rfl hr (fun v H' ⟨H0', g, p, m⟩ => k v H' H0' g m p) (fun _ _ q => q)
  exact ⟨_, PSs.nox pWs, hb.run _ H ⟨H0, .refl sb, start_SL hv, mo, fun b hb => .inl hb⟩⟩
end
/-- the statements of a class -/
def cBody (s : Stmt) : List Stmt := match s with
  | .ClassDef _ _ _ b _ _ _ _ _ _ _ => b
  | _ => []
def meth (i j : Nat) : Stmt := (cBody (top i)).getD j (.Pass ⟨0, 0, 0, 0⟩)
/-- a method, a property as they stand -/
structure MDfn (K : PySem.W.Frag) (C : Addr) (m qual : Str) (st : Stmt) (ps : List Str) : Prop where
  ex : ∃ f fd, Fun K m qual st f fd ∧ Meth K C m f ∧ Binds K fd ps [] ∧ PySem.W.fnIn K f = true
structure PDfn (K : PySem.W.Frag) (C : Addr) (m qual : Str) (st : Stmt) : Prop where
  ex : ∃ p g fd, Fun K m qual st g fd ∧ PropOf K C m p g ∧ Binds K fd ["self"] []
structure IDfn (K : PySem.W.Frag) (mg : Str → Option Value) (x : Str) (C : Addr) (qual : Str) (st : Stmt) : Prop where
  ex : ∃ f fd, Fun K "__init__" qual st f fd ∧ Mk K C f ∧ mg x = some (.ref C)
structure KDfn (K : PySem.W.Frag) (C : Addr) (m qual : Str) (st : Stmt) (ps : List Str) : Prop where
  ex : ∃ mc p g fd, Fun K m qual st g fd ∧ ClX.CRead K C mc ∧ ClX.CMet K C mc m p g ∧ Binds K fd ps []
structure SDfn (K : PySem.W.Frag) (C : Addr) (m qual : Str) (st : Stmt) : Prop where
  ex : ∃ mc p g fd, Fun K m qual st g fd ∧ ClX.CRead K C mc ∧ PySem.W.findCls K (.ref C) mc m = some (.get (.builtin "staticmethod.__get__") (.ref p) .none (.ref C)) ∧ (∃ rest, PySem.W.recIn K p "staticmethod" = some (.ref g :: rest))
structure PCal (P : Program) (w : World) (K : PySem.W.Frag) (mg : Str → Option Value) (base : Heap) (k : Nat) (C : Addr) (m : Str) (sp : Sp) : Prop where
  ex : ∃ p g fd, FnOk P w K mg base CX0 k g fd ["self"] sp ∧ PropOf K C m p g ∧ Binds K fd ["self"] []
section
variable {P : Program} {w : World} {K : PySem.W.Frag} {mg : Str → Option Value} {base : Heap} {C : Addr} {m qual : Str} {st : Stmt} {ps : List Str} {k : Nat} {sp : Sp}
theorem MDfn.cal (D : MDfn K C m qual st ps) (h : ∀ f fd, Fun K m qual st f fd → FnOk P w K mg base CX0 k f fd ps sp) : MCal P w K mg base k C m ps sp := by
  obtain ⟨f, fd, F, hm, hb, hf⟩ := D.ex
  exact ⟨f, fd, h f fd F, hm, hb, hf⟩
theorem PDfn.cal (D : PDfn K C m qual st) (h : ∀ f fd, Fun K m qual st f fd → FnOk P w K mg base CX0 k f fd ["self"] sp) : PCal P w K mg base k C m sp := by
  obtain ⟨p, g, fd, F, hp, hb⟩ := D.ex
  exact ⟨p, g, fd, h g fd F, hp, hb⟩
theorem IDfn.cal {x : Str} (D : IDfn K mg x C qual st) (h : ∀ f fd, Fun K "__init__" qual st f fd → FnR P w K mg base CX0 k f sp) : ICal P w K mg base k x C sp := by
  obtain ⟨f, fd, F, hm, hx⟩ := D.ex
  exact ⟨f, h f fd F, hm, hx⟩
theorem KDfn.cal (D : KDfn K C m qual st ps) (h : ∀ f fd, Fun K m qual st f fd → FnOk P w K mg base CX0 k f fd ps sp) : KCal P w K mg base k C m sp := by
  obtain ⟨mc, p, g, fd, F, cr, cm, hb⟩ := D.ex
  exact ⟨mc, p, g, cr, cm, fnR_of (h g fd F) hb⟩
theorem SDfn.cal (D : SDfn K C m qual st) (h : ∀ f fd, Fun K m qual st f fd → FnR P w K mg base CX0 k f sp) : SCal P w K mg base k C m sp := by
  obtain ⟨mc, p, g, fd, F, cr, cm, hs⟩ := D.ex
  exact ⟨mc, p, g, cr, cm, hs, F.kp, h g fd F⟩
end
section
variable {X : Cx} {o e : Expr} {es : List Expr} {G : Gam} {M M1 : Ml} {P P1 : VP} {pos apos : Pos} {C : Addr} {m : Str} {k : Nat} {ps : List Str}
theorem xe_pr {α : Type} {pre : α → Prop} {As : α → List VP} {R : α → VP} (N : PCal X.prog X.w X.K X.mg X.base k C m (spP pre As R)) (hr : Room (k + 1) X.A) (hc : Cls X.K C) (ho : XE X [] o G M P1 M1) (y : α) (hpre : pre y) (hy : As y = [P1]) (h1 : IsI C P1) (hw : ∀ v H, (R y).p v H → P.p v H)
    (hb : attributeBase o m X.env (eval o X.env) = eval o X.env := by rfl) : XE X [] (.Attribute o m pos) G M P M1 := by
  obtain ⟨p, g, fd, F, hp, hbd⟩ := N.ex
  exact xe_prop hp F hbd hr hc ho y hpre hy h1 hw hb
theorem xe_mt {α : Type} {pre : α → Prop} {As : α → List VP} {Mi Mo : α → Ml} {R : α → VP} {Ps : List VP} {pl : Sem Bool} {Mf : Ml} (N : MCal X.prog X.w X.K X.mg X.base k C m ps (spG pre As Mi R Mo)) (hr : Room k X.A) (hc : Cls X.K C) (ho : XE X [] o G M P1 M) (h1 : InsP C m P1)
    (y : α) (ha : XA X [] (e :: es) G M Ps (Mi y ++ Mf)) (hy : As y = P1 :: Ps) (hpre : pre y) (hw : ∀ v H, (R y).p v H → P.p v H) (had : ads (Mo y) = ads (Mi y) := by rfl) (hst : starEach (e :: es) X.env = (false, eval e X.env) :: starEach es X.env := by rfl) (hpl : (backTo pos (starEach es X.env)).any (·.1) = false := by rfl)
    (ht : eval (.Call (.Attribute o m apos) (e :: es) [] pos) X.env = (do let ov ← eval o X.env; standAt apos.atName; let (f, first) ← holding [ov] (getMethod ov m pl); callWith pos f first (backTo pos (starEach (e :: es) X.env)) (backToKw pos (keywordEach [] X.env))) := by rfl) :
    XE X [] (.Call (.Attribute o m apos) (e :: es) [] pos) G M P (Mo y ++ Mf) := by
  obtain ⟨f, fd, F, hm, hbd, hf⟩ := N.ex
  exact (xe_meth ho h1 hc hm F hr hbd y ha hy hpre had hst hpl ht).w hw
end
theorem ins_insP {C : Addr} {fps : Fps} {m : Str} (h : m ∉ fps.map Prod.fst) : InsP C m (Ins C fps) := fun v H ⟨a, dx, vs, h1, h2, _⟩ => by
  refine ⟨a, dx, _, h1, h2, ?_⟩
  have : ∀ (ns : List Str) (vs : List V), m ∉ ns → (ns.zip vs).lookup m = none := by
    intro ns
    induction ns with
    | nil => exact fun _ _ => rfl
    | cons n ns ih =>
      intro vs hn
      cases vs with
      | nil => rfl
      | cons u us =>
        show List.lookup m ((n, u) :: ns.zip us) = none
        rw [List.lookup_cons]
        have ne : (m == n) = false := beq_eq_false_iff_ne.mpr fun e => hn (by rw [e]; exact .head _)
        rw [ne]
        exact ih us fun z => hn (List.mem_cons_of_mem _ z)
  exact this _ _ h
end Y
/-! text SD -/
set_option Elab.async false
set_option linter.all false
set_option maxRecDepth 100000
namespace Y
open PySem PySem.Spec PyProof.Rows L2
/-! ### promises of a new cell -/
/-- a value of R0, or a value of R q beside a new cell q of C -/
def spX {α : Type} (pre : α → Prop) (As : α → List VP) (R0 : α → VP) (R : α → Addr → VP) (C : α → CP) : Sp := fun vs H Q _ => ∃ a H0, pre a ∧ Sub [] H0 H ∧ AllP H0 vs (As a) ∧ (∀ v H' H0', Grow [] [] H0 H H0' H' → (R0 a).p v H0' → Q v H') ∧
  ∀ v q o H' H0', Grow [] [] H0 H H0' H' → H0' q = none → H q = none → H' q = some o → (C a).p o H0' → (R a q).p v H0' → Q v H'
def noP : VP := ⟨fun _ _ => False, fun _ _ _ _ h => h⟩
/-- only a new cell -/
abbrev spC {α : Type} (pre : α → Prop) (As : α → List VP) (C : α → CP) : Sp := spX pre As (fun _ => noP) (fun _ q => Rf q) C
section
variable {P : Program} {w : World} {K : PySem.W.Frag} {mg : Str → Option Value} {base : Heap}
theorem fn_okX {α : Type} {pre : α → Prop} {As : α → List VP} {R0 : α → VP} {R : α → Addr → VP} {C : α → CP} {x qual : Str} {st : Stmt} {f : Addr} {fd : FuncData} {N ps : List Str} {k : Nat} (F : Fun K x qual st f fd) (S : FnScope N ps (defScope st)) (hl : ∀ a, pre a → (As a).length = ps.length)
    (h : ∀ a, pre a → ∀ (cdv : Value) (A : Around) (outer : List Env) (s : Shared) (H : Hp) (E : XK) (B : Bs) (D : Ends), B.A = [] → Room k (dA qual st f cdv A s) → (∀ v H, rtA [] B (R0 a) [] v H → D.rt v H) → (∀ v q H, B.h q = none → rtA [] B (R a q) [(q, C a)] v H → D.rt v H) → (∀ σ H, D.rt .non H → D.nx σ H) →
      XS (dX P w K mg base N qual st f cdv A outer s H E) [] (defBody st) B (startG N (As a)) [] D) : FnOk P w K mg base CX0 (k + 1) f fd ps (spX pre As R0 R C) := by
  refine F.ok S (fun vs H Q E ⟨a, H0, pa, _, hv, _⟩ => hv.len.trans (hl a pa)) fun cdv A outer s H vs Q E hr ⟨a, H0, pa, sb, hv, k1, k2⟩ => ?_
  have hb := h a pa cdv A outer s H E ⟨H0, H, []⟩ { nx := fun _ H' => Q .non H', rt := Q } rfl hr (fun v H' ⟨H0', g, p, m⟩ => k1 v H' H0' g p) (fun v q H' hq ⟨H0', g, p, m⟩ => by
    obtain ⟨h1, o, h2, h3⟩ := m.2 (q, C a) (.head _)
    exact k2 v q o H' H0' g h1 hq h2 h3 p) (fun _ _ q => q)
  exact ⟨_, pWs, hb.run _ H ⟨H0, .refl sb, start_SL hv, MO.nil, fun b hb => by cases hb⟩⟩
end
section
variable {X : Cx} {L : List Addr} {e o tg iter : Expr} {es : List Expr} {G : Gam} {M M1 M' Mw : Ml} {P P1 : VP} {pos apos cpos p : Pos} {C : Addr} {d : DD} {i k n : Nat} {B : Bs} {D : Ends} {x m f : Str} {Cp : CP} {rest : List Stmt}
/-- return e, e a new cell -/
theorem xs_doneM {R : Addr → VP} {Cp' : CP} (hr : ∀ v q H, B.h q = none → rtA L B (R q) [(q, Cp')] v H → D.rt v H) (he : XEm X L e G [] Cp []) (hR : ∀ q H, (R q).p (.ref q) H) (hC : ∀ o H, Cp.p o H → Cp'.p o H) : XS X L (.Return (some e) pos :: rest) B G [] D :=
  xs_of (ps_ret pW) fun σ H ⟨H0, g, l, m, f⟩ => he.run σ H H0 g.sub l m _ fun q H1 H01 g1 m1 hq => by
    have hb : B.h q = none := by
      cases e : B.h q with
      | none => rfl
      | some u => exact absurd hq (g.live q (by rw [e]; simp))
    refine hr _ q H1 hb ⟨H01, g.trans g1 (fun b hb => by cases hb), hR q H01, m1.1, fun c hc => ?_⟩
    have hc := List.mem_singleton.mp hc
    subst hc
    obtain ⟨h1, u, h2, h3⟩ := m1.2 (q, Cp) (List.mem_append_right _ (List.mem_singleton.mpr rfl))
    exact ⟨h1, u, h2, hC _ _ h3⟩
/-- a new cell, laid -/
theorem cell_laid {H0 H : Hp} {o : HO} {p : Addr} (s : Sub L H0 H) (m : MO M H0 H) (hp : H p = none) (hc : Cp.p o H0) : Grow L (ads M) H0 H H0 (upd H p o) ∧ MO (M ++ [(p, Cp)]) H0 (upd H p o) := by
  have h0 : H0 p = none := s.no hp
  refine ⟨Grow.write (.refl s) h0 (.inr hp), ⟨?_, fun c hcm => ?_⟩⟩
  · rw [ads_app]
    refine List.nodup_append.mpr ⟨m.1, by simp [ads], fun x hx y hy e => ?_⟩
    have hy : y = p := by simpa [ads] using hy
    subst hy e
    exact (m.at_ hx).2 hp
  · rcases List.mem_append.mp hcm with z | z
    · obtain ⟨k1, u, k2, k3⟩ := m.2 c z
      exact ⟨k1, u, by rw [upd_ne (ne_of_none k2 hp)]; exact k2, k3⟩
    · have z' := List.mem_singleton.mp z
      subst z'
      exact ⟨h0, _, upd_same, hc⟩
/-- dict(e) as a new cell -/
theorem xem_dict {p : Pos} (ha : XE X L e G M (Dc d) M1) (hm : X.mg "dict" = none) (hv : bootBuiltins "dict" = some (.type "dict")) (hg : Gl X "dict" := by rfl) (he : starEach [e] X.env = (false, eval e X.env) :: starEach [] X.env := by rfl) (hpl : (backTo pos (starEach [] X.env)).any (·.1) = false := by rfl) : XEm X L (.Call (.Name "dict" p) [e] [] pos) G M (CDc d) M1 :=
  ⟨ha.ad, fun σ H H0 s l m Q k pins sh I => (pe_callTy call_dictD hg hm hv (pa_cons pW pa_nil he) (by decide) (by decide) he hpl).run pins sh σ H Q I (ha.then_ s l m fun v H1 H01 g1 s1 l1 m1 ⟨a, ev, hv⟩ => ⟨a, _, by rw [ev], s1.dk hv, fun p hp => by
    have hpn : H p = none := by
      cases e : H p with
      | none => rfl
      | some o => exact absurd hp (g1.live p (by rw [e]; simp))
    obtain ⟨g2, m2⟩ := cell_laid (Cp := CDc d) (o := .dK (ofD d)) s1 m1 hp rfl
    exact k p _ H01 (g1.tr (by rw [← ha.ad]; exact g2)) m2 hpn⟩)⟩
/-- a property that gives a new cell -/
structure PCalX (P : Program) (w : World) (K : PySem.W.Frag) (mg : Str → Option Value) (base : Heap) (k : Nat) (C : Addr) (m : Str) (sp : Sp) : Prop where
  ex : ∃ p g fd, FnOk P w K mg base CX0 k g fd ["self"] sp ∧ PropOf K C m p g ∧ Binds K fd ["self"] []
theorem xem_prop {α : Type} {pre : α → Prop} {As : α → List VP} {Cf : α → CP} (N : PCal X.prog X.w X.K X.mg X.base n C f (spC pre As Cf)) (hr : Room (n + 1) X.A) (hc : Cls X.K C) (ho : XE X [] o G M P1 M1) (y : α) (hpre : pre y) (hy : As y = [P1]) (h1 : IsI C P1)
    (hb : attributeBase o f X.env (eval o X.env) = eval o X.env := by rfl) : XEm X [] (.Attribute o f pos) G M (Cf y) M1 := by
  obtain ⟨p, g, fd, F, hp, hbd⟩ := N.ex
  refine ⟨ho.ad, fun σ H H0 s l m Q k pins sh I => (pe_prop (E := E0) pW hc hp F hr hbd .nil pass0 hb).run pins sh σ H Q I (ho.then_ s l m fun v H1 H01 g1 s1 l1 m1 p1 => ?_)⟩
  obtain ⟨a, dx, fs, ex, hc'⟩ := h1 v H01 p1
  subst ex
  refine ⟨a, dx, fs, rfl, s1.ins hc', y, H01, hpre, s1, by rw [hy]; exact ⟨p1, trivial⟩, fun v H' H0' g2 h => h.elim, fun v q u H' H0' g2 h3 h4 h5 h6 h7 => ?_⟩
  have h7 : v = .ref q := h7
  subst h7
  have hqn : H q = none := by
    cases e : H q with
    | none => rfl
    | some o => exact absurd h4 (g1.live q (by rw [e]; simp))
  refine k q H' H0' (g1.tr g2.nil) ?_ hqn
  have m2 := m1.grow0 g2
  refine ⟨?_, fun c hcm => ?_⟩
  · rw [ads_app]
    refine List.nodup_append.mpr ⟨m2.1, by simp [ads], fun x hx y hy e => ?_⟩
    have hy : y = q := by simpa [ads] using hy
    subst hy e
    exact (m1.at_ hx).2 h4
  · rcases List.mem_append.mp hcm with z | z
    · exact m2.2 c z
    · have z' := List.mem_singleton.mp z
      subst z'
      exact ⟨h3, u, h5, h6⟩
theorem XEm.dc (h : XEm X L e G M (CDc d) M') : XE X L e G M (Dc d) M' := h.xe fun q o H e hq => ⟨q, rfl, by
  have e : o = .dK (ofD d) := e
  rw [hq, e]⟩
/-- the value is locked -/
def tFz (t : TE) : TE := fun σ H Q => t σ H fun x H1 => ∃ d u, x = V.ref d ∧ H1 d = some u ∧ Mut (some u) ∧ ∀ od, Q x (upd H1 d (.frz od u))
theorem pe_fz {t : TE} (h : PE X e t) : PE X e (tFz t) := ⟨fun pins s σ H Q I hw => thn (h.run pins s σ H _ I hw) fun v s1 ⟨x, H1, I1, r, d, u, ex, hd, mu, q⟩ => by
  obtain ⟨od, I2⟩ := I1.lock hd mu
  exact ⟨x, _, I2, r, q od⟩⟩
/-- the values of a new dict -/
theorem xi_valsN (he : XEm X L e G M (CDc d) M1) (hbase : attributeBase e "values" X.env (eval e X.env) = eval e X.env := by rfl) (hline : (apos.endLine == cpos.line) = true := by rfl) : XI X L tg (.Call (.Attribute e "values" apos) [] [] cpos) G M (d.map fun q => Vl (.int q.2)) M1 [] := ⟨he.ad, _, pi_values (pe_fz pW) hbase hline, fun σ H H0 s l m R k => he.run σ H H0 s l m _ fun q H1 H01 g1 m1 hq => by
  obtain ⟨h1, o, h2, h3⟩ := m1.2 (q, CDc d) (List.mem_append_right _ (List.mem_singleton.mpr rfl))
  have h1 : H01 q = none := h1
  have h2 : H1 q = some o := h2
  have h3 : o = .dK (ofD d) := h3
  subst h3
  refine ⟨q, _, rfl, h2, trivial, fun od => ?_⟩
  have gz : Grow L (ads M) H0 H H01 (upd H1 q (.frz od (.dK (ofD d)))) := g1.write h1 (.inr hq)
  have hqM : q ∉ ads M1 := fun z => m1.disj q z (by simp [ads])
  have mz : MO M1 H01 (upd H1 q (.frz od (.dK (ofD d)))) := ⟨m1.left.1, fun c hc => by
    obtain ⟨k1, u, k2, k3⟩ := m1.left.2 c hc
    exact ⟨k1, u, by rw [upd_ne (fun z => hqM (by rw [← z]; exact List.mem_map.mpr ⟨c, hc, rfl⟩))]; exact k2, k3⟩⟩
  have w : Walk (Itd q od (ofD d)) (d.map fun q => Vl (.int q.2)).length (fun H => H q = some (.frz od (.dK (ofD d)))) (fun i H x H' => H' = H ∧ ∃ k, (ofD d)[i]? = some (k, x)) := by
    have z := walk_values (d := q) (o := od) (kvs := ofD d)
    rw [show (ofD d).length = (d.map fun q => Vl (.int q.2)).length by unfold ofD; rw [List.length_map, List.length_map]] at z
    exact z
  refine ⟨q, od, _, rfl, upd_same, k _ _ H01 _ _ gz mz w (fun Hx H0x gx _ => gx.keep q _ upd_same hqM) fun i Hx z Hy H0x hi gx hy => ?_⟩
  obtain ⟨rfl, k, h1⟩ := hy
  obtain ⟨q, h2, rfl, rfl⟩ := of_at h1
  exact ⟨H0x, _, .refl gx.sub, by rw [List.getElem?_map, h2]; rfl, rfl⟩⟩
/-- not e, e an instance, as a value -/
theorem xe_notO {ps : List Str} {α : Type} {pre : α → Prop} {As : α → List VP} {R : α → VP} {kb : Bool} (N : MCal X.prog X.w X.K X.mg X.base n C "__bool__" ps (spP pre As R)) (hr : Room n X.A) (ha : XE X [] e G M P1 M1) (y : α) (hpre : pre y) (hy : As y = [P1]) (h1 : IsI C P1) (hw : ∀ v H, (R y).p v H → v = .bl kb) : XE X [] (.UnaryOp .Not e pos) G M (Vl (.bl (!kb))) M1 := by
  obtain ⟨f, fd, F, hm, hbd, hf⟩ := N.ex
  refine ⟨ha.ad, fun σ H H0 s l m Q q pins sh I => UnaryOp_ (thn (ha.then_ (Q := fun v H1 => ∃ a dx fs, v = .ref a ∧ H1 a = some (.ins C dx fs) ∧ spP pre As R [v] H1 (fun v H' => ∃ k, v = .bl k ∧ Q (.bl (!k)) H') E0) s l m (fun v H1 H01 g1 s1 l1 m1 p1 => ?_) pins sh I) fun v s1 ⟨x, H1, I1, r1, a, dx, fs, ex, ha', q1⟩ => ?_)⟩
  · obtain ⟨a, dx, fs, ex, hc⟩ := h1 v H01 p1
    exact ⟨a, dx, fs, ex, s1.ins hc, sp_p y hpre s1 (by rw [hy]; exact ⟨p1, trivial⟩) fun v H' H0' g p => ⟨kb, hw _ _ p, q _ H' H0' (g1.tr g.nil) (m1.grow0 g) rfl⟩⟩
  · subst ex
    cases r1
    exact not_of (thn (truth_own (Q := fun k H' => Q (.bl (!k)) H') hr F hbd hm I1 ha' q1) fun c s2 ⟨H2, I2, q2⟩ => ⟨.bl (!c), H2, I2, rfl, q2⟩)
/-- C.m( *e), m a staticmethod -/
theorem xe_sm {α : Type} {pre : α → Prop} {As : α → List VP} {R : α → VP} {Ps : List VP} {p2 : Pos} (N : SCal X.prog X.w X.K X.mg X.base k C m (spStar (spP pre As R) 0)) (hr : Room k X.A) (ho : XE X [] o G M (Rf C) M) (he : XE X [] e G M (Ls Ps) M1) (y : α) (hpre : pre y) (hy : As y = [Tp Ps]) (hz : Ps.length ≤ sizeLine)
    (hb : attributeBase o m X.env (eval o X.env) = eval o X.env := by rfl) : XE X [] (.Call (.Attribute o m apos) [.Starred e p2] [] pos) G M (R y) M1 :=
  .of (pe_sm N hr pW pW hb) he.ad fun σ H H0 s l m Q k => ho.then_ s l m fun v H1 H01 g1 s1 l1 m1 ev => ⟨ev, he.then_ s1 l1 m1 fun v2 H2 H02 g2 s2 l2 m2 ⟨a, vs, ea, ha, hv⟩ => by
    refine ⟨a, vs, ea, .inr (SqL.of (s2.lst ha)), [], vs, rfl, rfl, by rw [hv.len]; exact hz, fun p hp => ?_⟩
    have g3 : Grow [] [] H02 H2 (upd H02 p (.tup vs)) (upd H2 p (.tup vs)) := .alloc s2 hp
    refine sp_p y hpre g3.sub ?_ fun v H' H0' g p => k v H' H0' ((g1.tr g2).tr (g3.tr g).nil) (m2.grow0 (g3.tr g)) p
    rw [hy]
    exact ⟨⟨p, vs, rfl, upd_same, hv.mono g3.pure⟩, trivial⟩⟩
end
end Y
/-! text SE -/
set_option Elab.async false
set_option linter.all false
set_option maxRecDepth 100000
namespace Y
open PySem PySem.Spec PyProof.Rows L2
theorem ifT {p q : Prop} (h : p) : if true = true then p else q := by
  rw [if_pos rfl]
  exact h
/-! ### [elt for tg in iter for tg1 in iter1] -/
section
variable {X : Cx} {elt tg iter tg1 iter1 : Expr} {G : Gam} {pos : Pos}
theorem Grow.all {A : List Addr} {H0 H H1 H' : Hp} (g : Grow [] A H0 H H1 H') (h : ∀ b ∈ A, H b = none) : Grow [] [] H0 H H1 H' :=
  ⟨g.pure, g.sub, fun b o e _ => g.keep b o e fun z => (by rw [h b z] at e; cases e), g.new, g.live⟩
theorem xem_lc2 {α β : Type} {scope : Scope} {own : List (Str × Nat)} (vs1 js js1 : List Nat) (G2 : α → Gam) (G3 : α → β → Gam) (xs : List α) (ys : α → List β) (R : α → VP) (S T : α → β → VP) (hc : X.calm = true) (hN : X.N.Nodup)
    (hi : XI X [] tg iter G [] (xs.map R) [] []) (ok : BlkOk X.N X.env.scope scope own) (hl : (xs.flatMap ys).length < sizeLine) (hj : ∀ j ∈ js, j ∈ own.map (·.2)) (hv : ∀ i ∈ vs1, i ∈ own.map (·.2)) (hj1 : ∀ j ∈ js1, j ∈ vs1)
    (hg : ∀ x ∈ xs, ∀ s H C cl fp, XG1 (bk X scope s H C cl fp) [] tg js (R x) (wipeG G (own.map (·.2))) (G2 x))
    (hi1 : ∀ x ∈ xs, ∀ q s H C cl fp, XI (bk X scope s H C cl fp) [] tg1 iter1 (G2 x) [q] ((ys x).map (S x)) [q] [])
    (hg1 : ∀ x ∈ xs, ∀ y ∈ ys x, ∀ s H C cl fp, XG1 (bk X scope s H C cl fp) [] tg1 js1 (S x y) (wipeG (G2 x) vs1) (G3 x y))
    (he : ∀ x ∈ xs, ∀ y ∈ ys x, ∀ s H C cl fp, XE (bk X scope s H C cl fp) [] elt (G3 x y) [] (T x y) [])
    (hfs : ∀ x, foldedSetIterable iter X.env x = pure x := by intro _; rfl) (hfs1 : ∀ env x, foldedSetIterable iter1 env x = pure x := by intro _ _; rfl) :
    XEm X [] (.ListComp elt [⟨tg, iter, [], 0⟩, ⟨tg1, iter1, [], 0⟩] scope pos) G [] (CLs (xs.flatMap fun x => (ys x).map (T x))) [] := by
  obtain ⟨wi, hwi, hrun⟩ := hi.run
  let g : TG := fun v σ H Q => ∀ s Hb C cl fp, tWg (bk X scope s Hb C cl fp) tg v σ H Q
  let g1 : TG := fun v σ H Q => ∀ s Hb C cl fp, tWg (bk X scope s Hb C cl fp) tg1 v σ H Q
  let te : TE := fun σ H Q => ∀ s Hb C cl fp, tW (bk X scope s Hb C cl fp) elt σ H Q
  let wi1 : TI := fun σ H R => ∀ s Hb C cl fp, ∃ wi, PI (bk X scope s Hb C cl fp) tg1 iter1 wi ∧ wi σ H R
  have hp : PE X (.ListComp elt [⟨tg, iter, [], 0⟩, ⟨tg1, iter1, [], 0⟩] scope pos) (tLc2 wi g tYes wi1 g1 tYes te (own.map (·.2)) vs1) :=
    pe_lc2 hc hN hwi ok hv (fun s Hb C cl fp => ⟨fun pins sh σ H v u Q I r h => h s Hb C cl fp pins sh u I r⟩) (fun s Hb C cl fp => pts_nil)
      (fun s Hb C cl fp => ⟨fun pins sh σ H R I h => by
        obtain ⟨w, hw, h⟩ := h s Hb C cl fp
        exact hw.run pins sh σ H R I h⟩)
      (fun s Hb C cl fp => ⟨fun pins sh σ H v u Q I r h => h s Hb C cl fp pins sh u I r⟩) (fun s Hb C cl fp => pts_nil) (fun s Hb C cl fp => ⟨fun pins sh σ H Q I h => h s Hb C cl fp pins sh I⟩) hfs hfs1
  have hx : ∀ i P, (xs.map R)[i]? = some P → ∃ x, x ∈ xs ∧ P = R x ∧ xs.take (i + 1) = xs.take i ++ [x] := fun i P hP => by
    rw [List.getElem?_map] at hP
    cases e : xs[i]? with
    | none =>
      rw [e] at hP
      cases hP
    | some x =>
      rw [e] at hP
      refine ⟨x, List.mem_of_getElem? e, (Option.some.inj hP).symm, ?_⟩
      rw [List.take_add_one, e]
      rfl
  refine ⟨rfl, fun σ H H0 s l m Q k pins sh I => hp.run pins sh σ H Q I (hrun σ H H0 s l m _ fun J H1 H01 Gd Y gA m1 w hG hY D hD => ?_)⟩
  have hD0 : H01 D = none := gA.sub.no hD
  have hDn1 : H1 D = none := hD
  let ac : Nat → List VP := fun i => (xs.take i).flatMap fun x => (ys x).map (T x)
  refine ⟨fun i m H => m = (xs.map R).length - i ∧ i ≤ (xs.map R).length ∧ ∃ H0', Grow [] [] H01 H1 H0' H ∧ MO [(D, CLs (ac i))] H0' H, ⟨_, rfl, Nat.zero_le _, H01, ?_, ?_⟩, ?_⟩
  · have g2 : Grow [] [] H01 H1 H01 H1 := .refl gA.sub
    exact g2.write hD0 (.inr hD)
  · exact ⟨by simp [ads], fun c hc => by
      have hc := List.mem_singleton.mp hc
      subst hc
      exact ⟨hD0, _, upd_same, [], rfl, trivial⟩⟩
  rintro i - H' ⟨rfl, hi', H0', g', m'⟩
  have gd : Gd H' := hG H' H0' g' MO.nil
  by_cases hlt : i < (xs.map R).length
  · refine .inr ⟨w.goes i H' hlt gd, fun H => ∃ H0', Grow [] [] H01 H1 H0' H ∧ MO [(D, CLs (ac (i + 1)))] H0' H, fun H2 h2 => ⟨_, Nat.sub_lt_sub_left hlt (Nat.lt_succ_self i), rfl, hlt, h2⟩, fun z H'' hy => ?_⟩
    obtain ⟨H0y, P, gy, hP, pz⟩ := hY i H' z H'' H0' hlt g' (w.yields i H' z H'' hlt gd hy)
    obtain ⟨x, hxm, rfl, et⟩ := hx i P hP
    have eac : ac (i + 1) = ac i ++ (ys x).map (T x) := by
      show (xs.take (i + 1)).flatMap _ = _
      rw [et, List.flatMap_append]
      simp [ac]
    have m2 : MO [(D, CLs (ac i))] H0y H'' := m'.grow0 gy
    have gY : Grow [] [] H01 H1 H0y H'' := g'.tr gy
    have lw : SL (wipeG G (own.map (·.2))) (L2.wipe σ (own.map (·.2))) H0y := ((l.mono gA.pure).mono gY.pure).wipe _
    intro s' Hb C' cl fp
    refine (hg x hxm s' Hb C' cl fp).run z _ H'' H0y gy.sub lw pz _ fun σ2 l2 e2 k2 => ⟨wipe_eq (by rw [e2, wipe_length]) hj k2, ?_⟩
    show tYes σ2 H'' _
    unfold tYes
    refine ifT ?_
    intro s' Hb C' cl fp
    obtain ⟨w1, hw1, hrun1⟩ := (hi1 x hxm (D, CLs (ac i)) s' Hb C' cl fp).run
    refine ⟨w1, hw1, hrun1 σ2 H'' H0y gy.sub l2 m2 _ fun J1 H4 H04 Gd1 Y1 g4 m4 ww hG1 hY1 => ?_⟩
    have gZ : Grow [] [] H01 H1 H04 H4 := gY.trans g4 fun b hb => .inr (by rw [List.mem_singleton.mp hb]; exact hDn1)
    refine ⟨fun j m H => m = ((ys x).map (S x)).length - j ∧ j ≤ ((ys x).map (S x)).length ∧ ∃ H0', Grow [] [D] H04 H4 H0' H ∧ Grow [] [] H01 H1 H0' H ∧ MO [(D, CLs (ac i ++ ((ys x).take j).map (T x)))] H0' H, ⟨_, rfl, Nat.zero_le _, H04, .refl g4.sub, gZ, ?_⟩, ?_⟩
    · show MO [(D, CLs (ac i ++ []))] H04 H4
      rw [List.append_nil]
      exact m4
    rintro j - H5 ⟨rfl, hj', H05, gb, ga, m5⟩
    have gd1 : Gd1 H5 := hG1 H5 H05 gb MO.nil
    by_cases hlt1 : j < ((ys x).map (S x)).length
    · refine .inr ⟨ww.goes j H5 hlt1 gd1, fun H => ∃ H0', Grow [] [D] H04 H4 H0' H ∧ Grow [] [] H01 H1 H0' H ∧ MO [(D, CLs (ac i ++ ((ys x).take (j + 1)).map (T x)))] H0' H, fun H2 h2 => ⟨_, Nat.sub_lt_sub_left hlt1 (Nat.lt_succ_self j), rfl, hlt1, h2⟩, fun z1 H6 hy1 => ?_⟩
      obtain ⟨H06, P1, gy1, hP1, pz1⟩ := hY1 j H5 z1 H6 H05 hlt1 gb (ww.yields j H5 z1 H6 hlt1 gd1 hy1)
      obtain ⟨y, hym, rfl, ety⟩ : ∃ y, y ∈ ys x ∧ P1 = S x y ∧ (ys x).take (j + 1) = (ys x).take j ++ [y] := by
        rw [List.getElem?_map] at hP1
        cases e : (ys x)[j]? with
        | none =>
          rw [e] at hP1
          cases hP1
        | some y =>
          rw [e] at hP1
          refine ⟨y, List.mem_of_getElem? e, (Option.some.inj hP1).symm, ?_⟩
          rw [List.take_add_one, e]
          rfl
      have m6 : MO [(D, CLs (ac i ++ ((ys x).take j).map (T x)))] H06 H6 := m5.grow0 gy1
      have l6 : SL (wipeG (G2 x) vs1) (L2.wipe σ2 vs1) H06 := ((l2.mono g4.pure).mono (gb.tr gy1.nil).pure).wipe _
      intro s' Hb C' cl fp
      refine (hg1 x hxm y hym s' Hb C' cl fp).run z1 _ H6 H06 gy1.sub l6 pz1 _ fun σ3 l3 e3 k3 => ⟨wipe_eq (by rw [e3, wipe_length]) hj1 k3, ?_⟩
      refine ifT ?_
      intro s' Hb C' cl fp
      refine (he x hxm y hym s' Hb C' cl fp).run σ3 H6 H06 gy1.sub l3 MO.nil _ fun u H7 H07 g7 _ pu => ?_
      have m7 : MO [(D, CLs (ac i ++ ((ys x).take j).map (T x)))] H07 H7 := m6.grow0 g7
      obtain ⟨q1, o, q2, vs, ev, hvs⟩ := m7.2 _ (List.mem_singleton.mpr rfl)
      have q2 : H7 D = some o := q2
      have q1 : H07 D = none := q1
      subst ev
      have hlen : vs.length < sizeLine := by
        rw [hvs.len]
        refine Nat.lt_of_le_of_lt ?_ hl
        have e1 : (xs.flatMap ys).length = ((xs.take i).flatMap ys).length + ((xs.drop i).flatMap ys).length := by
          rw [← List.length_append, ← List.flatMap_append, List.take_append_drop]
        have e2 : xs.drop i = x :: xs.drop (i + 1) := by
          have h3 := List.take_append_drop (i + 1) xs
          rw [et, List.append_assoc] at h3
          have h4 := List.take_append_drop i xs
          exact List.append_cancel_left (h4.trans h3.symm)
        have e3 : (ac i).length = ((xs.take i).flatMap ys).length := by
          show ((xs.take i).flatMap fun x => (ys x).map (T x)).length = _
          rw [List.length_flatMap, List.length_flatMap]
          simp
        rw [List.length_append, e3, e1, e2, List.length_map, List.flatMap_cons, List.length_append, List.length_take]
        omega
      refine ⟨vs, q2, hlen, H07, ?_, ?_, ?_⟩
      · exact ((gb.tr gy1.nil).tr g7.nil).write q1 (.inl (.head _))
      · exact ((ga.tr gy1).tr g7).write q1 (.inr hD)
      · have m8 := MO.write (M := []) (C' := CLs (ac i ++ ((ys x).take (j + 1)).map (T x))) (o := .lst (vs ++ [u])) m7 ⟨_, rfl, by
          rw [ety, List.map_append, ← List.append_assoc]
          exact hvs.app (AllP.one pu)⟩
        exact m8
    · have e : j = ((ys x).map (S x)).length := by omega
      subst e
      refine .inl ⟨ww.stops H5 gd1, H05, ga, ?_⟩
      rw [List.length_map, List.take_length] at m5
      rw [eac]
      exact m5
  · have e : i = (xs.map R).length := by omega
    subst e
    refine .inl ⟨w.stops H' gd, ?_⟩
    have hDn : H D = none := by
      cases q : H D with
      | none => rfl
      | some o => exact absurd hD (gA.live D (by rw [q]; simp))
    have e2 : ac (xs.map R).length = xs.flatMap fun x => (ys x).map (T x) := by
      show (xs.take _).flatMap _ = _
      rw [List.length_map, List.take_length]
    rw [e2] at m'
    exact k D H' H0' (gA.tr g') m' hDn
end
end Y
/-! text SF -/
set_option Elab.async false
set_option linter.all false
set_option maxRecDepth 100000
/-! enumerate of a tuple -/
namespace Y
section
open PySem
open PySem.Sem (wp)
open AutoSeq1 (wpAny_loadPart')
set_option maxHeartbeats 1000000 in
theorem meets_enumT (l : Addr) (items : Array Value) (n : Nat) (dct : Option Addr) (sl : Array (Option Value)) :
    Meets (Builtin.«enumerate.__new__» ⟨[.type "enumerate", .ref l], []⟩) (fun _ R s => s.heap.get? l = some { cls := .type "tuple", dict := dct, data := .seq items n, slots := sl } ∧
      R (.ok (.ret (.ref (s.heap.push { cls := .type "tuple_iterator", data := .fields #[.ref l, .int 0 0] }).objs.size)))
        { s with heap := (s.heap.push { cls := .type "tuple_iterator", data := .fields #[.ref l, .int 0 0] }).push { cls := .type "enumerate", data := .fields #[.none, .bool false, .ref s.heap.objs.size, rawInt 0, .none, .none] } }) :=
  .of_wp fun prog w A R s h => by
    obtain ⟨hp, g, d, tk, os⟩ := s; obtain ⟨hl, h⟩ := h
    have hsub := sub_enumerate
    have hL : Heap.IsTuple (Shared.heap ⟨hp, g, d, tk, os⟩) l items := ⟨_, hl, rfl, n, rfl⟩
    wp_walk using wpAny_loadPart' hl
    refine wpAny_stack_any fun st => wpAny_pure ?_
    split
    · rename_i c _ _ _ _ _
      cases (c == Value.type "enumerate")
      · wp_walk using wpAny_loadPart' hl, wpAny_pyIter_tuple hL
        exact ⟨_, rfl, h⟩
      · wp_walk using wpAny_loadPart' hl, wpAny_pyIter_tuple hL
        exact ⟨_, rfl, h⟩
    · wp_walk using wpAny_loadPart' hl, wpAny_pyIter_tuple hL
      exact ⟨_, rfl, h⟩
section
variable {prog : Program} {w : World} {A : Around} {E : Value → Shared → Prop} {s : Shared}
theorem call_enumT {l : Addr} {items : Array Value} {Q : Value → Shared → Prop} (hL : s.heap.IsTuple l items)
    (h : ∀ h', IsEnum h' (s.heap.objs.size + 1) s.heap.objs.size 0 .none → h'.IsTupleIter s.heap.objs.size l 0 → h'.objs.size = s.heap.objs.size + 2 →
      (∀ b o, s.heap.get? b = some o → h'.get? b = some o) → Q (.ref (s.heap.objs.size + 1)) { s with heap := h' }) :
    wpAny (model prog w) A (call (.type "enumerate") [.ref l]) Q E s := by
  obtain ⟨⟨c, dct, dt, sl⟩, hl, hc, n, hd⟩ := hL
  replace hc : c = .type "tuple" := hc
  replace hd : dt = .seq items n := hd
  subst hc hd
  refine callType_new F.called_enumerate (by decide) (F.typeCall_enumerate_1 _) (F.newCall_enumerate_1 _) (fun obj => F.args_object_init_2 obj _) F.entry_enumerate_new
    (meets_enumT l items n dct sl) ⟨hl, ?_⟩
  have hz : (s.heap.push { cls := .type "tuple_iterator", data := .fields #[.ref l, .int 0 0] }).objs.size = s.heap.objs.size + 1 := Heap.size_push ..
  show _ ∧ _
  rw [hz]
  have he : IsEnum ((s.heap.push { cls := .type "tuple_iterator", data := .fields #[.ref l, .int 0 0] }).push
      { cls := .type "enumerate", data := .fields #[.none, .bool false, .ref s.heap.objs.size, rawInt 0, .none, .none] }) (s.heap.objs.size + 1) s.heap.objs.size 0 .none := by
    have := Heap.get?_push_size (s.heap.push { cls := .type "tuple_iterator", data := .fields #[.ref l, .int 0 0] })
      (o := { cls := .type "enumerate", data := .fields #[.none, .bool false, .ref s.heap.objs.size, rawInt 0, .none, .none] }) rfl
    rw [hz] at this; exact this
  refine ⟨⟨_, he, rfl⟩, h _ he ⟨_, Heap.get?_push_of_some _ (Heap.get?_push_size _ rfl), rfl, rfl⟩ (by rw [Heap.size_push, hz]) fun b o x => Heap.get?_push_of_some _ (Heap.get?_push_of_some _ x)⟩
theorem drawsT (hh : A.handled = none) (it t : Addr) (hne : t ≠ it) (items : Array Value) :
    Draws prog w A it [it, t] items.size (fun i v => items[i]? = some v) (fun i h => h.IsTupleIter it t i ∧ h.IsTuple t items) where
  live := fun _ _ st => let ⟨o, ho, _⟩ := st.1; ⟨o, ho⟩
  frame := fun _ _ _ st hk => ⟨st.1.at fun o e => hk it (by simp) o e, st.2.at fun o e => hk t (by simp) o e⟩
  item := fun i s Q E hi st hQ => by
    refine RZ.nextOf_tuple_item st.1 st.2 (x := items[i]) (by simp [hi]) fun h' hit' hs' => ?_
    exact hQ _ h' s.toks (by simp [hi]) ⟨hit', st.2.extBut hs'.extBut hne⟩ hs'
  done := fun s Q E st hE => RZ.nextOf_tuple_end hh st.1 st.2 (by simp) hE
end
end
section
open PySem PySem.Spec PyProof.Rows L2
/-- the tuple at a, each item in a new pair -/
def IteT (K : PySem.W.Frag) (a : Addr) : It :=
  ⟨fun i H => ∃ (xs : List V) (x : V), SqT K H a xs ∧ xs[i]? = some x, fun i H v H' => ∃ T x, v = .ref T ∧ H T = none ∧ H' = upd H T (.tup [.int (i : Nat), x]) ∧ ∀ xs, SqT K H a xs → xs[i]? = some x, fun i H => ∃ xs : List V, SqT K H a xs ∧ xs.length = i⟩
theorem turn_enumT {P : Program} {w : World} {K : PySem.W.Frag} {elts : List Expr} {kk : Nat} {tpos : Pos} (a e it : Addr) (hai : a ≠ it) (hae : a ≠ e) :
    Turn P w K (.Tuple elts kk tpos) (IteT K a) [e, it] e (fun i h => (∃ old, IsEnum h e it ((i : Nat) : Int) old) ∧ h.IsTupleIter it a i ∧ e ≠ it) where
  mem := by simp
  obj := fun i h st b hb => by
    obtain ⟨⟨old, he⟩, ⟨o, ho, hc, hd⟩, _⟩ := st
    have e' : b = e ∨ b = it := by simpa using hb
    rcases e' with z | z
    · rw [z]; exact ⟨_, he, fun v q => nomatch q⟩
    · rw [z]; exact ⟨o, ho, fun v q => by rw [hd] at q; cases q⟩
  keep := fun i h h' st k => let ⟨⟨old, he⟩, hi, hne⟩ := st; ⟨⟨old, k e (by simp) _ he⟩, hi.at fun o q => k it (by simp) o q, hne⟩
  item := by
    intro X hP hw hK hc i pins s σ H E I hf st hg
    subst hP hw hK
    obtain ⟨⟨old, he⟩, hit, hne⟩ := st
    obtain ⟨xs, x, hq, hx⟩ := hg
    obtain ⟨its, rv, p, hz⟩ := I.tuple hq
    obtain ⟨u, hu, ru⟩ := rv.get hx
    have hel : e < s.heap.objs.size := Heap.lt_size he
    have hil : it < s.heap.objs.size := by obtain ⟨_, q, _⟩ := hit; exact Heap.lt_size q
    have hp : s.heap.IsTuple a its.toArray := p
    have hlt : i < its.toArray.size := by
      have := (List.getElem?_eq_some_iff.mp hu).1
      simpa using this
    refine wpAny_pyNext_enum_itemD (drawsT (A := X.A.in1) (I.ok.hd hc) it a hai its.toArray) he ⟨hit, hp⟩ hlt hne (by simp [hne, Ne.symm hae]) fun x' h' tk hx' ho hst hT hsz hk => ?_
    obtain ⟨hit', hp'⟩ := hst
    have ex' : x' = u := by
      have h1 : its[i]? = some x' := by simpa using hx'
      rw [hu] at h1
      exact (Option.some.inj h1).symm
    subst ex'
    refine ⟨_, rfl, wpAny_letOwnedTupleGo_enum (s := { s with heap := h', toks := tk + 1 }) ho fun h'' he' sb => ?_⟩
    have hT2 : h''.get? s.heap.objs.size = some { cls := .type "tuple", data := .seq #[.int i tk, x'] } := (sb.2 _ (Nat.ne_of_gt hel)).trans hT
    have new : ObjOk X.prog X.w (upd H s.heap.objs.size (.tup [.int (i : Nat), x])) h'' s.heap.objs.size (.tup [.int (i : Nat), x]) :=
      ⟨by show 2 ≤ sizeLine; decide, [.int i tk, x'], .cons ⟨_, rfl⟩ (.cons ru .nil), ⟨_, hT2, rfl, _, rfl⟩⟩
    have I1 : Inv X pins σ (upd H s.heap.objs.size (.tup [.int (i : Nat), x])) { s with heap := h'', toks := tk + 1 } :=
      I.turnedNew (ch := [e, it]) (fun b ob hb q => (sb.2 b (fun z => hb (by simp [z]))).trans (hk b ob (fun z => hb (by simp [z])) (fun z => hb (by simp [z])) q)) hf (Nat.le_refl _) new
    refine ⟨.ref s.heap.objs.size, _, I1, rfl, ⟨_, x, rfl, I.hok.fresh (Nat.le_refl _), rfl, fun ys hy => by rw [I.tuple_inj hy hq]; exact hx⟩, ⟨⟨x', ?_⟩, hit'.at fun o q => (sb.2 it (Ne.symm hne)).trans q, hne⟩, fun b hb => ?_⟩
    · have e1 : ((i + 1 : Nat) : Int) = (i : Int) + 1 := by omega
      rw [e1]; exact he'
    · have hb' : b < s.heap.objs.size := by
        have e' : b = e ∨ b = it := by simpa using hb
        rcases e' with z | z
        · rw [z]; exact hel
        · rw [z]; exact hil
      rw [upd_ne (Nat.ne_of_lt hb')]
      exact (hf b hb).1
  done := by
    intro X hP hw hK hc i pins s σ H E I hf st hg
    subst hP hw hK
    obtain ⟨⟨old, he⟩, hit, hne⟩ := st
    obtain ⟨xs, hq, hx⟩ := hg
    obtain ⟨its, rv, p, hz⟩ := I.tuple hq
    obtain ⟨f0, f1, f2, f3, f4, f5⟩ := hf it (by simp)
    have hp : s.heap.IsTuple a its.toArray := p
    have hl := rv.length
    have hsz : i = its.toArray.size := by
      rw [← hx, List.size_toArray]
      exact hl
    rw [hsz] at he hit
    exact wpAny_pyNext_enum_endD (drawsT (A := X.A.in1) (I.ok.hd hc) it a hai its.toArray) he ⟨hit, hp⟩ fun h' eb => ⟨rfl, I.turned (t' := s.toks) (fun b o hb q => eb b o hb q) f0 f1 f3 f4 f5⟩
  self := fun A i s Q E st h => let ⟨⟨_, he⟩, _⟩ := st; wpAny_pyIter_enum he h
def iEnumT (K : PySem.W.Frag) (ta : TA) : TI := fun σ H R => ta σ H fun vs H1 => ∃ a xs, vs = [.ref a] ∧ SqT K H1 a xs ∧ R (IteT K a) H1
theorem pi_enumT {X : Cx} {e : Expr} {ta : TA} {p pos tpos : Pos} {elts : List Expr} {kk : Nat} (hg : Gl X "enumerate") (hm : X.mg "enumerate" = none) (ha : PA X [e] ta) (hs : starEach [e] X.env = [(false, eval e X.env)] := by rfl) :
    PI X (.Tuple elts kk tpos) (.Call (.Name "enumerate" p) [e] [] pos) (iEnumT X.K ta) := by
  refine ⟨fun pins s σ H R I h => ?_⟩
  refine Call_ (ld_blt I hg hm boot_enumerate (PyProof.Rows.callWith_type1 (thn (ha.run pos pins s σ H _ I h) fun us s1 ⟨vs, H1, I1, r1, q1⟩ => ?_) hs rfl))
  obtain ⟨a, xs, ex, hq, q⟩ := q1
  subst ex
  cases r1 with
  | cons r rr =>
    cases rr
    cases r
    obtain ⟨its, rv, p', hz⟩ := I1.tuple hq
    have hp : s1.heap.IsTuple a its.toArray := p'
    have hlt : a < s1.heap.objs.size := by
      obtain ⟨o, ho, _⟩ := hp
      exact Heap.lt_size ho
    refine call_enumT hp fun h' he hit hsz hk => wpAny_pyIter_enum he ?_
    have I2 : Inv X pins σ H1 { s1 with heap := h' } := I1.kept (t' := s1.toks) hk
    refine ⟨s1.heap.objs.size + 1, [s1.heap.objs.size + 1, s1.heap.objs.size], _, _, H1, rfl, I2, turn_enumT a (s1.heap.objs.size + 1) s1.heap.objs.size (Nat.ne_of_lt hlt) (Nat.ne_of_lt (Nat.lt_succ_of_lt hlt)), ⟨⟨.none, he⟩, hit, Nat.succ_ne_self _⟩, fun b hb => ?_, q⟩
    have e' : b = s1.heap.objs.size + 1 ∨ b = s1.heap.objs.size := by simpa using hb
    have hle : s1.heap.objs.size ≤ b := by
      rcases e' with z | z
      · rw [z]; exact Nat.le_add_right _ _
      · rw [z]; exact Nat.le_refl _
    exact I1.fpOk hle (I1.hok.fresh hle)
theorem walk_enumT {K : PySem.W.Frag} {a : Addr} {xs : List V} : Walk (IteT K a) xs.length (fun H => SqT K H a xs) (YPair (fun i => some (.int (i : Nat))) (fun i => xs[i]?)) := by
  refine ⟨fun i _ hi q => ⟨xs, xs[i], q, by simp [hi]⟩, fun _ q => ⟨xs, q, rfl⟩, fun i H v H' _ q y => ?_⟩
  obtain ⟨T, x, h1, h2, h3, h4⟩ := y
  exact ⟨T, .int (i : Nat), x, h1, h2, h3, rfl, h4 xs q⟩
theorem xi_enumT {X : Cx} {L : List Addr} {G : Gam} {M M1 : Ml} {e : Expr} {Ps : List VP} {p1 p2 tpos : Pos} {elts : List Expr} {kk : Nat} (hg : Gl X "enumerate") (hm : X.mg "enumerate" = none) (he : XE X L e G M (Tp Ps) M1) (hs : starEach [e] X.env = [(false, eval e X.env)] := by rfl) :
    XI X L (.Tuple elts kk tpos) (.Call (.Name "enumerate" p1) [e] [] p2) G M (enumP Ps) M1 [] := by
  refine ⟨he.ad, _, pi_enumT hg hm (pa_cons pW pa_nil hs) hs, fun σ H H0 s l m R k => ?_⟩
  refine he.then_ s l m fun x H1 H01 g1 s1 l1 m1 ⟨a, vs, ea, ha, hv⟩ => ?_
  subst ea
  refine ⟨a, vs, rfl, SqT.of (s1.tup ha), ?_⟩
  refine k _ H1 H01 _ _ g1 m1 ((enumP_len Ps).symm ▸ hv.len ▸ walk_enumT (xs := vs)) (fun Hx H0x gx _ => SqT.of (gx.sub.tup (gx.pure _ _ ha))) fun i Hx z Hy H0x hi gx hy => ?_
  obtain ⟨T, x, y, rfl, hT, rfl, hx, hy⟩ := hy
  obtain rfl := Option.some.inj hx
  obtain ⟨Q, hQ, py⟩ := (hv.mono gx.pure).get' hy
  have g2 : Grow L [] H0x Hx (upd H0x T (.tup [.int (i : Nat), y])) (upd Hx T (.tup [.int (i : Nat), y])) := .alloc gx.sub hT
  exact ⟨_, _, g2, enum_at hQ, T, _, rfl, upd_same, rfl, Q.mono _ _ _ g2.pure py, trivial⟩
end
end Y
/-! text SG -/
set_option Elab.async false
set_option linter.all false
set_option maxRecDepth 100000
namespace Y
open PySem PySem.Spec PyProof.Rows L2
/-! ### a result beside a new cell, by a choice -/
def spY {α β : Type} (pre : α → Prop) (As : α → List VP) (R0 : α → VP) (ok : α → β → Prop) (R : α → β → Addr → VP) (C : α → β → CP) : Sp := fun vs H Q _ => ∃ a H0, pre a ∧ Sub [] H0 H ∧ AllP H0 vs (As a) ∧ (∀ v H' H0', Grow [] [] H0 H H0' H' → (R0 a).p v H0' → Q v H') ∧
  ∀ b v q o H' H0', ok a b → Grow [] [] H0 H H0' H' → H0' q = none → H q = none → H' q = some o → (C a b).p o H0' → (R a b q).p v H0' → Q v H'
section
variable {P : Program} {w : World} {K : PySem.W.Frag} {mg : Str → Option Value} {base : Heap}
theorem fn_okY {α β : Type} {pre : α → Prop} {As : α → List VP} {R0 : α → VP} {ok : α → β → Prop} {R : α → β → Addr → VP} {C : α → β → CP} {x qual : Str} {st : Stmt} {f : Addr} {fd : FuncData} {N ps : List Str} {k : Nat} (F : Fun K x qual st f fd) (S : FnScope N ps (defScope st)) (hl : ∀ a, pre a → (As a).length = ps.length)
    (h : ∀ a, pre a → ∀ (cdv : Value) (A : Around) (outer : List Env) (s : Shared) (H : Hp) (E : XK) (B : Bs) (D : Ends), B.A = [] → Room k (dA qual st f cdv A s) → (∀ v H, rtA [] B (R0 a) [] v H → D.rt v H) → (∀ b v q H, ok a b → B.h q = none → rtA [] B (R a b q) [(q, C a b)] v H → D.rt v H) →
      XS (dX P w K mg base N qual st f cdv A outer s H E) [] (defBody st) B (startG N (As a)) [] D) : FnOk P w K mg base CX0 (k + 1) f fd ps (spY pre As R0 ok R C) := by
  refine F.ok S (fun vs H Q E ⟨a, H0, pa, _, hv, _⟩ => hv.len.trans (hl a pa)) fun cdv A outer s H vs Q E hr ⟨a, H0, pa, sb, hv, k1, k2⟩ => ?_
  have hb := h a pa cdv A outer s H E ⟨H0, H, []⟩ { nx := fun _ H' => Q .non H', rt := Q } rfl hr (fun v H' ⟨H0', g, p, m⟩ => k1 v H' H0' g p) (fun b v q H' hok hq ⟨H0', g, p, m⟩ => by
    obtain ⟨h1, o, h2, h3⟩ := m.2 (q, C a b) (.head _)
    exact k2 b v q o H' H0' hok g h1 hq h2 h3 p)
  exact ⟨_, pWs, hb.run _ H ⟨H0, .refl sb, start_SL hv, MO.nil, fun b hb => by cases hb⟩⟩
end
section
variable {X : Cx} {L : List Addr} {e o tg iter : Expr} {es : List Expr} {G : Gam} {M M1 M' Mw : Ml} {P P1 : VP} {pos apos cpos p : Pos} {C q : Addr} {i k n : Nat} {B : Bs} {D : Ends} {x m f : Str} {Cp C1 C2 : CP} {rest sts : List Stmt}
theorem xs_retM (hB : B.A = []) (he : XE X L e G [(q, C1)] P [(q, C1)]) (hw : ∀ o H, C1.p o H → C2.p o H) (hr : ∀ v H, B.h q = none → rtA L B P [(q, C2)] v H → D.rt v H) : XS X L (.Return (some e) pos :: rest) B G [(q, C1)] D :=
  xs_of (ps_ret pW) fun σ H ⟨H0, g, l, m, f⟩ => he.then_ g.sub l m fun v H1 H01 g1 s1 l1 m1 p1 => by
    have hb : B.h q = none := by
      rcases f q (by simp [ads]) with z | z
      · rw [hB] at z
        cases z
      · exact z
    refine hr v H1 hb ⟨H01, g.trans g1 f, p1, m1.1, fun c hc => ?_⟩
    have hc := List.mem_singleton.mp hc
    subst hc
    obtain ⟨k1, u, k2, k3⟩ := m1.2 (q, C1) (.head _)
    exact ⟨k1, u, k2, hw _ _ k3⟩
/-- a list's cell, its values named -/
def CLx (vs : List V) (Ps : List VP) : CP := ⟨fun o H => o = .lst vs ∧ AllP H vs Ps, fun _ _ _ e ⟨h1, h2⟩ => ⟨h1, h2.mono e⟩⟩
theorem xs_named {Ps : List VP} (h : ∀ vs, XS X L sts B G (M ++ [(q, CLx vs Ps)]) D) : XS X L sts B G (M ++ [(q, CLs Ps)]) D := ⟨fun σ H ⟨H0, g, l, m, f⟩ => by
  obtain ⟨h1, o, h2, vs, h3, h4⟩ := m.2 (q, CLs Ps) (List.mem_append_right _ (.head _))
  refine (h vs).run σ H ⟨H0, g, l, ⟨by rw [ads_app]; have := m.1; rw [ads_app] at this; exact this, fun c hc => ?_⟩, by rw [ads_app] at f ⊢; exact f⟩
  rcases List.mem_append.mp hc with z | z
  · exact m.2 c (List.mem_append_left _ z)
  · have z := List.mem_singleton.mp z
    subst z
    exact ⟨h1, o, h2, h3, h4⟩⟩
/-- a cell's list, walked -/
theorem xi_cell {vs : List V} {Ps : List VP} (he : XE X L e G M (Rf q) M1) (hq : (q, CLx vs Ps) ∈ M1) (hMw : Mw = [(q, CLx vs Ps)]) : XI X L tg e G M Ps M1 Mw := ⟨he.ad, _, pi_list pW, fun σ H H0 s l m R k => he.then_ s l m fun v H1 H01 g1 s1 l1 m1 ev => by
  obtain ⟨h1, o, h2, h3, h4⟩ := m1.2 _ hq
  have h2 : H1 q = some o := h2
  rw [h3] at h2
  subst hMw
  refine ⟨q, ev, ⟨vs, SqL.of h2⟩, ?_⟩
  refine k _ H1 H01 _ _ g1 m1 (h4.len ▸ walk_list (xs := vs)) (fun Hx H0x gx mx => ?_) fun i Hx z Hy H0x hi gx hy => ?_
  · obtain ⟨k1, u, k2, k3, k4⟩ := mx.2 _ (.head _)
    have k2 : Hx q = some u := k2
    rw [k3] at k2
    exact SqL.of k2
  · obtain ⟨rfl, hz⟩ := hy
    obtain ⟨P, hP, pz⟩ := (h4.mono gx.pure).get' hz
    exact ⟨H0x, P, .refl gx.sub, hP, pz⟩⟩
/-- an expression without cells, beside any -/
theorem XE.beside (h : XE X [] e G [] P []) : XE X [] e G M P M := ⟨rfl, fun σ H H0 s l m Q k => h.run σ H H0 s l MO.nil Q fun v H' H0' g _ p => k v H' H0' g.nil (m.grow0 g) p⟩
/-- a cell's list lent as a pure one: the value is plain -/
theorem xe_lend {z : V} {G' : Gam} {Ps : List VP} (hq : (q, CLs Ps) ∈ M) (hG : ∀ (σ : St) H0 vs, SL G σ H0 → H0 q = none → AllP H0 vs Ps → SL G' σ (upd H0 q (.lst vs))) (h : XE X [] e G' [] (Vl z) []) : XE X [] e G M (Vl z) M := ⟨rfl, fun σ H H0 s l m Q k => by
  obtain ⟨h1, o, h2, vs, h3, h4⟩ := m.2 _ hq
  have h2 : H q = some o := h2
  have h1 : H0 q = none := h1
  rw [h3] at h2
  have sa : Sub [] (upd H0 q (.lst vs)) H := ⟨fun a u e => by
    by_cases z : a = q
    · subst z
      rw [upd_same] at e
      cases e
      exact .inl ⟨List.not_mem_nil, h2⟩
    · rw [upd_ne z] at e
      exact s.at_ a u e, fun a ha => absurd ha List.not_mem_nil⟩
  refine h.run σ H _ sa (hG σ H0 vs l h1 h4) MO.nil Q fun v H' H0' g _ p => ?_
  have gr : Grow [] [] H0 H H0 H' := ⟨Same.refl _, ⟨fun a u e => by
    rcases s.at_ a u e with ⟨x, y⟩ | ⟨x, _⟩
    · exact .inl ⟨x, g.keep a _ y List.not_mem_nil⟩
    · exact absurd x List.not_mem_nil, fun a ha => absurd ha List.not_mem_nil⟩, g.keep, fun b hb => .inl hb, g.live⟩
  exact k v H' H0 gr.nil (m.grow0 gr) p⟩
end
end Y
/-! text SH -/
set_option Elab.async false
set_option linter.all false
set_option maxRecDepth 100000
namespace Y
open PySem PySem.Spec PyProof.Rows L2
/-! ### cells that are dicts of any values -/
def CDx (kvs : List (Key × V)) (fs : List (V × VP)) : CP := ⟨fun o H => o = .dK kvs ∧ ∀ x ∈ fs, x.2.p x.1 H, fun _ _ _ e ⟨h1, h2⟩ => ⟨h1, fun x hx => x.2.mono _ _ _ e (h2 x hx)⟩⟩
section
variable {X : Cx} {L : List Addr} {a b e o i c : Expr} {G : Gam} {M M1 M2 M3 Ma Mb : Ml} {P P1 : VP} {pos pos' apos cpos : Pos} {q : Addr} {B : Bs} {D : Ends} {rest sts : List Stmt} {C C' : CP} {kvs : List (Key × V)} {k : Str} {v : V}
theorem MO.at2 {H0 H : Hp} (m : MO (Ma ++ (q, C) :: Mb) H0 H) : H0 q = none ∧ ∃ o, H q = some o ∧ C.p o H0 := by
  obtain ⟨h1, o, h2, h3⟩ := m.2 (q, C) (List.mem_append_right _ (.head _))
  exact ⟨h1, o, h2, h3⟩
theorem MO.writeAt {H0 H : Hp} {o : HO} (m : MO (Ma ++ (q, C) :: Mb) H0 H) (h : C'.p o H0) : MO (Ma ++ (q, C') :: Mb) H0 (upd H q o) := by
  have e : ads (Ma ++ (q, C') :: Mb) = ads (Ma ++ (q, C) :: Mb) := by simp [ads]
  refine ⟨by rw [e]; exact m.1, fun c hc => ?_⟩
  have nd := m.1
  rw [ads_app] at nd
  have hd : ∀ c ∈ Ma ++ Mb, c.1 ≠ q := fun c hc z => by
    rcases List.mem_append.mp hc with w | w
    · exact (List.nodup_append.mp nd).2.2 c.1 (List.mem_map.mpr ⟨c, w, rfl⟩) q (by simp [ads]) z
    · have := (List.nodup_append.mp nd).2.1
      rw [show ads ((q, C) :: Mb) = q :: ads Mb from rfl] at this
      exact (List.nodup_cons.mp this).1 (List.mem_map.mpr ⟨c, w, z⟩)
  rcases List.mem_append.mp hc with w | w
  · obtain ⟨k1, u, k2, k3⟩ := m.2 c (List.mem_append_left _ w)
    exact ⟨k1, u, by rw [upd_ne (hd c (List.mem_append_left _ w))]; exact k2, k3⟩
  · rcases List.mem_cons.mp w with w | w
    · subst w
      exact ⟨m.at2.1, _, upd_same, h⟩
    · obtain ⟨k1, u, k2, k3⟩ := m.2 c (List.mem_append_right _ (List.mem_cons_of_mem _ w))
      exact ⟨k1, u, by rw [upd_ne (hd c (List.mem_append_right _ w))]; exact k2, k3⟩
/-- d[k] of a cell -/
theorem xe_cget (hu : X.A.units + 1 < cLine) (ha : XE X L a G M (Rf q) M1) (hb : XE X L b G M1 (Vl (.str k)) M2) (hq : (q, C) ∈ M2) (hC : ∀ o H, C.p o H → o = .dK kvs ∧ P.p v H) (hv : valV kvs (.inr k) = some v) (hs : NoSl b := by intro _ _; rfl) : XE X L (.Subscript a b pos) G M P M2 :=
  .of (pe_dget hu pW pW hs) (hb.ad.trans ha.ad) fun σ H H0 s l m Q qq => ha.then2 hb s l m fun x y H' H0' g s' _ m' ex ey => by
    obtain ⟨_, o, h2, h3⟩ := m'.2 _ hq
    obtain ⟨rfl, hp⟩ := hC _ _ h3
    have ey : y = .str k := ey
    subst ey
    have h2 : H' q = some (.dK kvs) := h2
    exact ⟨q, v, ex, .inl ⟨kvs, .inr k, .inl h2, rfl, hv.symm⟩, qq _ H' H0' g m' hp⟩
/-- d.get(k, c) of a cell -/
theorem xe_cget2 {z : V} (hu : X.A.units + 1 < cLine) (ho : XE X L o G M (Rf q) M1) (he : XE X L e G M1 (Vl (.str k)) M2) (hf : XE X L c G M2 (Vl z) M3) (hq1 : (q, C) ∈ M1) (hq : (q, C) ∈ M3) (hC : ∀ o H, C.p o H → o = .dK kvs) 
    (m : L2.M2 X o "get" apos e c cpos := by exact ⟨rfl, rfl, rfl, rfl⟩) : XE X L (.Call (.Attribute o "get" apos) [e, c] [] cpos) G M (Vl ((valV kvs (.inr k)).getD z)) M3 :=
  .of (pe_dget2 hu pW pW pW m) (hf.ad.trans (he.ad.trans ho.ad)) fun σ H H0 s l m Q qq => ho.then_ s l m fun x H1 H01 g1 s1 l1 m1 ex => by
    obtain ⟨_, ob, h2, h3⟩ := m1.2 _ hq1
    have h3 := hC _ _ h3
    subst h3
    have h2 : H1 q = some (.dK kvs) := h2
    refine ⟨q, ex, .inl ⟨_, .inl h2⟩, he.then2 hf s1 l1 m1 fun y w H2 H02 g2 s2 l2 m2 ey ew => ?_⟩
    have ey : y = .str k := ey
    have ew : w = z := ew
    subst ey ew
    obtain ⟨_, ob, h4, h5⟩ := m2.2 _ hq
    have h5 := hC _ _ h5
    subst h5
    have h4 : H2 q = some (.dK kvs) := h4
    exact ⟨_, .inl ⟨kvs, .inr k, .inl h4, rfl, rfl⟩, qq _ H2 H02 (g1.tr (ho.ad ▸ g2)) m2 rfl⟩
/-- d[k] = e -/
theorem xs_cput (hu : X.A.units + 1 < cLine) (he : XE X L e G M P M1) (ho : XE X L o G M1 (Rf q) M2) (hi : XE X L i G M2 (Vl (.str k)) (Ma ++ (q, C) :: Mb)) (hC : ∀ v o H, P.p v H → C.p o H → ∃ kvs, o = .dK kvs ∧ kvs.length < sizeLine ∧ C'.p (.dK (putK kvs (.inr k) v)) H)
    (hr : XS X L rest B G (Ma ++ (q, C') :: Mb) D) (hs : swapsWith e (some (.Subscript o i pos')) pos.line X.env = pure false := by rfl) : XS X L (.Assign [.Subscript o i pos'] e pos :: rest) B G M D :=
  xs_of (ps_dput hu pW pW pW hs) fun σ H ⟨H0, g, l, m, fr⟩ => he.then_ g.sub l m fun v H1 H01 g1 s1 l1 m1 p1 => ho.then2 hi s1 l1 m1 fun x y H2 H02 g2 s2 l2 m2 ex ey => by
    have ey : y = .str k := ey
    subst ey
    obtain ⟨h1, ob, h2, h3⟩ := m2.at2
    obtain ⟨kvs, rfl, hl, hc⟩ := hC v ob H02 (P.mono _ _ _ g2.pure p1) h3
    have ead : ads (Ma ++ (q, C) :: Mb) = ads M := hi.ad.trans (ho.ad.trans he.ad)
    have gB : Grow L B.A B.h0 B.h H02 H2 := (g.trans g1 fr).trans g2 fun b hb => fr b (by rw [← he.ad]; exact hb)
    have hq : q ∈ B.A ∨ B.h q = none := fr q (by rw [← ead]; simp [ads])
    refine ⟨q, _, ex, .inl ⟨kvs, .inr k, h2, rfl, hl, rfl⟩, hr.run σ _ ⟨H02, gB.write h1 hq, l2, m2.writeAt hc, fun b hb => fr b ?_⟩⟩
    have e3 : ads (Ma ++ (q, C') :: Mb) = ads (Ma ++ (q, C) :: Mb) := by simp [ads]
    rw [← ead, ← e3]
    exact hb
end
end Y
/-! text Zg -/
set_option Elab.async false
set_option linter.all false
set_option maxRecDepth 100000
namespace Y
open PySem PySem.Spec PyProof.Rows L2
/-! ### loads as plain dicts -/
structure Nrm (d : DD) : Prop where
  nd : (ks d).Nodup
  nz : ∀ q ∈ d, q.2 ≠ 0
theorem gv_of_mem {d : DD} (h : (ks d).Nodup) {q : Str × Int} (hq : q ∈ d) : gv d q.1 = some q.2 := by
  induction d with
  | nil => cases hq
  | cons p d ih =>
    rw [gv_cons]
    have hn : p.1 ∉ ks d ∧ (ks d).Nodup := List.nodup_cons.mp h
    rcases List.mem_cons.mp hq with e | hq
    · rw [e, if_pos rfl]
    · have ne : ¬ p.1 = q.1 := fun e => hn.1 (by rw [e]; exact List.mem_map.mpr ⟨q, hq, rfl⟩)
      rw [if_neg ne]
      exact ih hn.2 hq
theorem mem_of_gv {d : DD} {k : Str} {v : Int} (h : gv d k = some v) : (k, v) ∈ d := by
  induction d with
  | nil => cases h
  | cons p d ih =>
    rw [gv_cons] at h
    split at h
    · rename_i e
      have h : p.2 = v := Option.some.inj h
      rw [← e, ← h]
      exact .head _
    · exact List.mem_cons_of_mem _ (ih h)
theorem Nrm.gv {d : DD} (h : Nrm d) (k : Str) : gv d k = if gt d k = 0 then none else some (gt d k) := by
  unfold gt
  cases e : Y.gv d k with
  | none => simp
  | some v =>
    have := h.nz _ (mem_of_gv e)
    simp [this]
theorem Nrm.ks {d : DD} (h : Nrm d) (k : Str) : k ∈ ks d ↔ gt d k ≠ 0 := by
  rw [gv_mem, h.gv]
  split <;> simp_all
/-- equal as functions: equal as dicts -/
theorem Nrm.eqs {d d' : DD} (h : Nrm d) (h' : Nrm d') (e : ∀ k, gt d k = gt d' k) : d.length = d'.length ∧ ∀ q ∈ d, Y.gv d' q.1 = some q.2 := by
  have hk : ∀ k, k ∈ Y.ks d ↔ k ∈ Y.ks d' := fun k => by rw [h.ks, h'.ks, e]
  refine ⟨?_, fun q hq => ?_⟩
  · have p : (Y.ks d).Perm (Y.ks d') := (List.perm_ext_iff_of_nodup h.nd h'.nd).mpr hk
    have := p.length_eq
    unfold Y.ks at this
    rw [List.length_map, List.length_map] at this
    exact this
  · have g1 := gv_of_mem h.nd hq
    rw [h'.gv, ← e]
    rw [h.gv] at g1
    exact g1
/-- without_zeros -/
def nz (d : DD) : DD := mk (fun k => k) (gt d) ((srt (ks d)).filter fun k => gt d k != 0)
theorem nz_gt (d : DD) (k : Str) : gt (nz d) k = gt d k := by
  unfold nz
  show (gv (mk _ _ _) k).getD 0 = _
  rw [mk_gv _ _ (gt d) _ fun _ _ => rfl]
  split
  · rfl
  · rename_i h
    rw [List.map_id'] at h
    by_cases e : k ∈ ks d
    · by_cases z : gt d k = 0
      · rw [z]
        rfl
      · exact absurd (List.mem_filter.mpr ⟨(srt_mem _ _).mpr e, by simpa using z⟩) h
    · rw [gt_none e]
      rfl
theorem nz_nrm (d : DD) : Nrm (nz d) := by
  refine ⟨mk_nodup _ _ _, fun q hq => ?_⟩
  have h1 := gv_of_mem (mk_nodup _ _ _) hq
  rw [mk_gv _ _ (gt d) _ fun _ _ => rfl] at h1
  split at h1
  · rename_i h
    rw [List.map_id'] at h
    have h1 : gt d q.1 = q.2 := Option.some.inj h1
    rw [← h1]
    simpa using (List.mem_filter.mp h).2
  · cases h1
theorem nz_len (d : DD) : (nz d).length ≤ d.length := by
  unfold nz
  refine Nat.le_trans (mk_len _ _ _) (Nat.le_trans (List.length_filter_le ..) (Nat.le_trans (srt_len _) ?_))
  unfold ks
  rw [List.length_map]
  exact Nat.le_refl _
theorem nz_ks (d : DD) (k : Str) : k ∈ ks (nz d) → k ∈ ks d := fun h => by
  rw [(nz_nrm d).ks, nz_gt] at h
  exact Classical.byContradiction fun z => h (gt_none z)
/-- what + and - give -/
def pl (f : Int → Int → Int) (a b : DD) : DD := nz (mk (fun k => k) (fun k => f (gt a k) (gt b k)) (ks a ++ ks b))
theorem pl_gt {f : Int → Int → Int} (h0 : f 0 0 = 0) (a b : DD) (k : Str) : gt (pl f a b) k = f (gt a k) (gt b k) := by
  unfold pl
  rw [nz_gt]
  show (gv (mk _ _ _) k).getD 0 = _
  rw [mk_gv _ _ (fun k => f (gt a k) (gt b k)) _ fun _ _ => rfl]
  split
  · rfl
  · rename_i h
    rw [List.map_id', List.mem_append] at h
    rw [gt_none (fun z => h (.inl z)), gt_none (fun z => h (.inr z)), h0]
    rfl
theorem pl_nrm (f : Int → Int → Int) (a b : DD) : Nrm (pl f a b) := nz_nrm _
theorem pl_len (f : Int → Int → Int) (a b : DD) : (pl f a b).length ≤ a.length + b.length := by
  unfold pl
  refine Nat.le_trans (nz_len _) (Nat.le_trans (mk_len _ _ _) ?_)
  rw [List.length_append]
  unfold ks
  rw [List.length_map, List.length_map]
  exact Nat.le_refl _
/-- what * gives -/
def ti (d : DD) (n : Int) : DD := nz (mk Prod.fst (fun q => q.2 * n) d)
theorem mk_fst {d : DD} (h : (ks d).Nodup) (g : Int → Int) (p : Int → Bool) (k : Str) : gv (mk Prod.fst (fun q => g q.2) (d.filter fun q => p q.2)) k = if k ∈ ks (d.filter fun q => p q.2) then some (g (gt d k)) else none := by
  rw [mk_gv _ _ (fun k => g (gt d k)) _ fun q hq => ?_]
  · rfl
  · show g q.2 = g (gt d q.1)
    unfold gt
    rw [gv_of_mem h (List.mem_filter.mp hq).1]
    rfl
theorem ti_gt {d : DD} (h : (ks d).Nodup) (n : Int) (k : Str) : gt (ti d n) k = gt d k * n := by
  unfold ti
  rw [nz_gt]
  have e := mk_fst h (· * n) (fun _ => true) k
  rw [List.filter_eq_self.mpr fun _ _ => rfl] at e
  show (gv _ k).getD 0 = _
  rw [e]
  split
  · rfl
  · rename_i hn
    rw [gt_none hn, Int.zero_mul]
    rfl
theorem ti_nrm (d : DD) (n : Int) : Nrm (ti d n) := nz_nrm _
theorem ti_len (d : DD) (n : Int) : (ti d n).length ≤ d.length := Nat.le_trans (nz_len _) (mk_len _ _ _)
/-- the negative part, its signs turned -/
def ng (d : DD) : DD := nz (mk Prod.fst (fun q => -q.2) (d.filter fun q => decide (q.2 < 0)))
theorem ng_empty {d : DD} (h : Nrm d) : (ng d).isEmpty = true ↔ ∀ k, 0 ≤ gt d k := by
  have e : ∀ k, gt (ng d) k = if gt d k < 0 then -gt d k else 0 := fun k => by
    unfold ng
    rw [nz_gt]
    show (gv _ k).getD 0 = _
    rw [mk_fst h.nd (fun i => -i) (fun i => decide (i < 0))]
    split
    · rename_i hm
      obtain ⟨q, hq, e⟩ := List.mem_map.mp hm
      obtain ⟨h1, h2⟩ := List.mem_filter.mp hq
      have h3 : gt d k = q.2 := by
        unfold gt
        rw [← e, gv_of_mem h.nd h1]
        rfl
      have h2 := of_decide_eq_true h2
      rw [h3, if_pos h2]
      rfl
    · rename_i hm
      split
      · rename_i hlt
        have hk : k ∈ ks d := (h.ks k).mpr (by omega)
        obtain ⟨q, hq, e⟩ := List.mem_map.mp hk
        have h3 : gt d k = q.2 := by
          unfold gt
          rw [← e, gv_of_mem h.nd hq]
          rfl
        exact absurd (List.mem_map.mpr ⟨q, List.mem_filter.mpr ⟨hq, by rw [← h3]; exact decide_eq_true hlt⟩, e⟩) hm
      · rfl
  have hn : Nrm (ng d) := nz_nrm _
  constructor
  · intro he k
    have h0 : gt (ng d) k = 0 := by
      have : ng d = [] := List.isEmpty_iff.mp he
      rw [this]
      rfl
    rw [e] at h0
    split at h0
    · omega
    · omega
  · intro hp
    rw [List.isEmpty_iff]
    cases hd : ng d with
    | nil => rfl
    | cons q l =>
      exfalso
      have hq : q ∈ ng d := by
        rw [hd]
        exact .head _
      have h1 := hn.nz q hq
      have h2 := gv_of_mem hn.nd hq
      have h3 : gt (ng d) q.1 = q.2 := by
        unfold gt
        rw [h2]
        rfl
      rw [e] at h3
      have := hp q.1
      split at h3
      · omega
      · omega
/-- words -/
def Wd (x : Str) : Prop := 1 ≤ x.length ∧ x.length ≤ 8 ∧ ∀ c ∈ x.cps.toList, 97 ≤ c ∧ c ≤ 122
def letters : Str := Str.ofString "abcdefghijklmnopqrstuvwxyz"
theorem letters_mem {c : Nat} (h1 : 97 ≤ c) (h2 : c ≤ 122) : c ∈ letters.cps.toList := by
  have key : ∀ c, c < 123 → 97 ≤ c → c ∈ letters.cps.toList := by decide +kernel
  exact key c (by omega) h1
end Y
/-! text Zh -/
set_option Elab.async false
set_option linter.all false
set_option maxRecDepth 100000
namespace Y
open PySem PySem.Spec PyProof.Rows L2
/-! ### checks -/
theorem bt_isi : bootBuiltins "isinstance" = some (.builtin "isinstance") := by decide +kernel
theorem bt_str : bootBuiltins "str" = some (.type "str") := by decide +kernel
theorem bt_int : bootBuiltins "int" = some (.type "int") := by decide +kernel
theorem bt_bool : bootBuiltins "bool" = some (.type "bool") := by decide +kernel
theorem bt_dict : bootBuiltins "dict" = some (.type "dict") := by decide +kernel
theorem bt_tuple : bootBuiltins "tuple" = some (.type "tuple") := by decide +kernel
theorem bt_list : bootBuiltins "list" = some (.type "list") := by decide +kernel
theorem bt_min : bootBuiltins "min" = some (.builtin "min") := by decide +kernel
abbrev sII : Stmt := top 4
theorem scII : FnScope ["value"] ["value"] (defScope sII) := ⟨rfl, rfl, rfl, by decide +kernel, rfl, by decide +kernel, by decide +kernel⟩
abbrev sIW : Stmt := top 5
theorem scIW : FnScope ["value", "letter"] ["value"] (defScope sIW) := ⟨rfl, rfl, rfl, by decide +kernel, rfl, by decide +kernel, by decide +kernel⟩
/-- the constants of the program -/
structure Cst (mg : Str → Option Value) : Prop where
  ml : ∃ t, mg "MOST_LETTERS" = some (.int 8 t)
  le : ∃ t, mg "LETTERS" = some (.str letters t)
  mp : ∃ t, mg "MAX_PAIRS" = some (.int 8 t)
  mkk : ∃ t, mg "MAX_KINDS" = some (.int 6 t)
  mc : ∃ t, mg "MAX_COUNT" = some (.int 1000000 t)
section
variable {P : Program} {w : World} {K : PySem.W.Frag} {mg : Str → Option Value} {base : Heap}
abbrev spII : Sp := spP (α := Int) (fun _ => True) (fun i => [Vl (.int i)]) (fun _ => Vl (.bl true))
theorem c_II (D : Dfn K mg "is_integer" sII ["value"]) (T : Bt mg) : Cal P w K mg base 1 "is_integer" ["value"] spII := D.cal fun f fd F => by
  refine fn_ok F scII (fun _ _ => rfl) ?_
  rintro i - cdv A outer s H E B D hB hr hrt hnx
  refine xs_done hrt (xe_and (xe_callB call_isi (rc_isi (.ty "int") ty_int kit_same) (by rfl) T.isinstance bt_isi (xa_cons (v 0) (xa_cons (xe_bt T.int bt_int rfl) xa_nil))) fun _ => xe_one (xe_not (xe_callB call_isi (rc_isi (.ty "bool") ty_int kit_ib) (by rfl) T.isinstance bt_isi (xa_cons (v 0) (xa_cons (xe_bt T.bool bt_bool rfl) xa_nil)))))
abbrev spIW : Sp := spP (α := Str) Wd (fun x => [Vl (.str x)]) (fun _ => Vl (.bl true))
theorem c_IW (D : Dfn K mg "is_word" sIW ["value"]) (T : Bt mg) (Z : Cst mg) : Cal P w K mg base 1 "is_word" ["value"] spIW := D.cal fun f fd F => by
  refine fn_ok F scIW (fun _ _ => rfl) ?_
  rintro x ⟨h1, h2, h3⟩ cdv A outer s H E B D hB hr hrt hnx
  obtain ⟨t1, e1⟩ := Z.ml
  obtain ⟨t2, e2⟩ := Z.le
  have hx : x.length ≤ sizeLine := by
    rw [sizeLine_eq]
    omega
  refine xs_when (p := (· = false)) (XT.w (XW.xt (xw_or (xt_notk (xt_val (xe_callB call_isi (rc_isi (.ty "str") ty_str kit_same) (by rfl) T.isinstance bt_isi (xa_cons (v 0) (xa_cons (xe_bt T.str bt_str rfl) xa_nil))))) fun _ => xw_one (xt_notk (xt_chain op_le op_le (rv_i0 (i := 1) (j := (x.length : Int))) (rv_i0 (i := (x.length : Int)) (j := 8)) xe_int (xe_callB call_len (rc_lenS hx) (by rfl) T.len bt_len (xa_cons (v 0) xa_nil)) (xe_gl e1 ⟨t1, rfl⟩))))) fun b e => ?_) (fun ht => by cases ht) (fun _ => ?_)
  · rw [e]
    have q1 : decide ((1 : Int) ≤ (x.length : Int)) = true := decide_eq_true (by omega)
    have q2 : decide ((x.length : Int) ≤ 8) = true := decide_eq_true (by omega)
    rw [q1, q2]
    rfl
  · have hin : ∀ n ∈ x.cps.toList, decide (n ∈ letters.cps.toList) = true := fun n hn => decide_eq_true (letters_mem (h3 n hn).1 (h3 n hn).2)
    have hl : x.cps.toList.length < sizeLine := by
      rw [Array.length_toList, sizeLine_eq]
      have : x.cps.size ≤ 8 := h2
      omega
    refine xs_done hrt (xe_callB (cr_all rfl) (rc_all (bs := x.cps.toList.map fun n => decide (n ∈ letters.cps.toList))) (by rfl) T.all bt_all (xa_cons (XE.w (XLc.ls (xlcM (own := [("letter", 1)]) [1] (fun n => [some (Vl (.str x)), some (Vl (.str ⟨#[n]⟩))]) x.cps.toList (fun n => Vl (.str ⟨#[n]⟩)) (fun n => Vl (.bl (decide (n ∈ letters.cps.toList)))) rfl scIW.nd (xi_str (v 0)) (blkOk_by (N := ["value", "letter"]) (sc := defScope sIW) (by decide +kernel)) (fun _ _ h => h) hl (by decide)
      (fun r hr s H C cl fp => xg_name (i := 1) scIW.nd rfl (.inl rfl)) (fun r hr s H C cl fp => xe_cmp op_in_sign rv_inS (v 1) (xe_gl e2 ⟨t2, rfl⟩) (by rfl)))) fun v H p => ?_) xa_nil)) fun v H p => ?_
    · rw [List.map_map]
      exact p
    · have e : ((x.cps.toList.map fun n => decide (n ∈ letters.cps.toList)).all id) = true := by
        rw [List.all_map, List.all_eq_true]
        exact fun n hn => hin n hn
      rw [e] at p
      exact p
/-! ### without_zeros, checked -/
abbrev sWZ : Stmt := top 34
theorem scWZ : FnScope ["counts", "kind"] ["counts"] (defScope sWZ) := ⟨rfl, rfl, rfl, by decide +kernel, rfl, by decide +kernel, by decide +kernel⟩
theorem len64 {n : Nat} (h : n < 64) : n < sizeLine := Nat.lt_of_lt_of_le h (by rw [sizeLine_eq]; decide)
theorem un1 {k : Nat} {A : Around} (r : Room k A) : A.units + 1 < cLine := by
  have := r.un
  omega
abbrev spWZ : Sp := spP (α := DD) (fun d => d.length < 64) (fun d => [Dc d]) (fun d => Dc (nz d))
theorem ks_len (d : DD) : (ks d).length = d.length := List.length_map ..
theorem c_WZ (D : Dfn K mg "without_zeros" sWZ ["counts"]) (T : Bt mg) : Cal P w K mg base 1 "without_zeros" ["counts"] spWZ := D.cal fun f fd F => by
  refine fn_ok F scWZ (fun _ _ => rfl) ?_
  rintro d hd cdv A outer s H E B D hB hr hrt hnx
  have hd : d.length < 64 := hd
  have hgv : ∀ k ∈ srt (ks d), ∃ v, gv d k = some v ∧ gt d k = v := fun k hk => by
    have := gv_mem.mp ((srt_mem _ _).mp hk)
    cases e : gv d k with
    | none => exact absurd e this
    | some v => exact ⟨v, rfl, by unfold gt; rw [e]; rfl⟩
  refine xs_done hrt (xe_dc (own := [("kind", 1)]) [1] (fun k => [some (Dc d), some (Vl (.str k))]) (srt (ks d)) (fun k => Vl (.str k)) (fun k => k) (gt d) (fun k => gt d k != 0) rfl scWZ.nd (xi_list (xe_sortset (ks := ks d) (v 0) (fun v H p => .inr ⟨d, p, rfl⟩) (by rw [ks_len]; exact hd) T.sorted T.set)) (blkOk_by (N := ["counts", "kind"]) (sc := defScope sWZ) (by decide +kernel)) (fun _ _ h => h) (len64 (Nat.lt_of_le_of_lt (srt_len _) (by rw [ks_len]; exact hd))) (by decide)
    (fun r hr s H C cl fp => xg_name (i := 1) scWZ.nd rfl (.inl rfl)) (fun k hk s H C cl fp => ?_) (fun k hk _ s H C cl fp => v 1) (fun k hk _ s H C cl fp => ?_))
  · obtain ⟨u, h1, h2⟩ := hgv k hk
    rw [h2]
    exact xts_one (xt_cmp op_ne rv_neI (xe_dget (un1 hr) (v 0) (v 1) h1) xe_int (nomark _))
  · obtain ⟨u, h1, h2⟩ := hgv k hk
    rw [h2]
    exact xe_dget (un1 hr) (v 0) (v 1) h1
abbrev sCH : Stmt := top 35
theorem scCH : FnScope ["counts", "kind"] ["counts"] (defScope sCH) := ⟨rfl, rfl, rfl, by decide +kernel, rfl, by decide +kernel, by decide +kernel⟩
abbrev spCH : Sp := spP (α := DD) (fun d => d.length < 64 ∧ ∀ k ∈ ks d, Wd k) (fun d => [Dc d]) (fun d => Dc (nz d))
theorem c_CH (D : Dfn K mg "checked" sCH ["counts"]) (T : Bt mg) (cII : Cal P w K mg base 1 "is_integer" ["value"] spII) (cIW : Cal P w K mg base 1 "is_word" ["value"] spIW) (cWZ : Cal P w K mg base 1 "without_zeros" ["counts"] spWZ) : Cal P w K mg base 2 "checked" ["counts"] spCH := D.cal fun f fd F => by
  refine fn_ok F scCH (fun _ _ => rfl) ?_
  rintro d ⟨hd, hw⟩ cdv A outer s H E B D hB hr hrt hnx
  have hd : d.length < 64 := hd
  have hw : ∀ k ∈ ks d, Wd k := hw
  refine xs_for (ι := Unit) PassesOwn.never rfl (xi_list (xe_sortset (ks := ks d) (v 0) (fun v H p => .inr ⟨d, p, rfl⟩) (by rw [ks_len]; exact hd) T.sorted T.set)) (fun _ _ => True) (fun _ _ => [some (Dc d), none]) (fun _ _ => []) ⟨(), trivial, (fun _ _ h => h), rfl, fun _ _ h => h⟩ (fun _ _ _ _ _ _ => MO.nil) ?_ ?_
  · rintro i - Q B' bl hQ -
    rw [List.getElem?_map] at hQ
    cases e : (srt (ks d))[i]? with
    | none =>
      rw [e] at hQ
      cases hQ
    | some k =>
      rw [e] at hQ
      cases hQ
      have hk : k ∈ ks d := (srt_mem _ _).mp (List.mem_of_getElem? e)
      obtain ⟨u, hu⟩ : ∃ u, gv d k = some u := by
        have := gv_mem.mp hk
        cases e : gv d k with
        | none => exact absurd e this
        | some v => exact ⟨v, rfl⟩
      refine ⟨[1], _, xg_name (i := 1) scCH.nd rfl (.inl rfl), ?_⟩
      refine xs_when (p := (· = false)) (XT.w (XW.xt (xw_or (xt_notk (xt_val (xpw cIW hr k (xa_cons (v 1) xa_nil) (hw k hk) fun _ _ p => p))) fun _ => xw_one (xt_notk (xt_val (xpw cII hr u (xa_cons (xe_dget (un1 hr) (v 0) (v 1) hu) xa_nil) trivial fun _ _ p => p))))) fun b e => e) (fun ht => by cases ht) (fun _ => ?_)
      exact xs_nil fun σ H h => ⟨(), trivial, h.unset 1⟩
  · rintro - -
    exact xs_done hrt (xpw cWZ hr d (xa_cons (v 0) xa_nil) hd fun _ _ p => p)
end
end Y
/-! text Zt -/
set_option Elab.async false
set_option linter.all false
set_option maxRecDepth 100000
namespace Y
open PySem PySem.Spec PyProof.Rows L2
/-! ### the pen -/
def CEx {α : Type} (f : α → Prop) (Cf : α → CP) : CP := ⟨fun o H => ∃ x, f x ∧ (Cf x).p o H, fun _ _ _ e ⟨x, h1, h2⟩ => ⟨x, h1, (Cf x).mono _ _ _ e h2⟩⟩
theorem xs_openC {X : Cx} {L : List Addr} {sts : List Stmt} {B : Bs} {G : Gam} {D : Ends} {Ma Mb : Ml} {q : Addr} {α : Type} {f : α → Prop} {Cf : α → CP} (h : ∀ x, f x → XS X L sts B G (Ma ++ (q, Cf x) :: Mb) D) : XS X L sts B G (Ma ++ (q, CEx f Cf) :: Mb) D := ⟨fun σ H ⟨H0, g, l, m, fr⟩ => by
  obtain ⟨h1, o, h2, x, fx, h3⟩ := m.at2
  have e : ads (Ma ++ (q, Cf x) :: Mb) = ads (Ma ++ (q, CEx f Cf) :: Mb) := by simp [ads]
  have m2 := m.writeAt (C' := Cf x) h3
  have eu : upd H q o = H := by
    funext b
    by_cases z : b = q
    · rw [z, upd_same, h2]
    · rw [upd_ne z]
  rw [eu] at m2
  exact (h x fx).run σ H ⟨H0, g, l, m2, by rw [e]; exact fr⟩⟩
abbrev kCells : Str := "cells"
abbrev kBegun : Str := "begun"
abbrev kLeft : Str := "left"
abbrev penK (a : Addr) (i : Nat) (j : Int) : List (Key × V) := [(.inr kCells, .ref a), (.inr kBegun, .int (i : Int)), (.inr kLeft, .int j)]
theorem kn1 : ¬ kCells = kLeft := by decide +kernel
theorem kn2 : ¬ kBegun = kLeft := by decide +kernel
theorem kn3 : ¬ kCells = kBegun := by decide +kernel
theorem kn4 : ¬ kLeft = kBegun := by decide +kernel
theorem pen_left {a : Addr} {i : Nat} {j : Int} : valV (penK a i j) (.inr kLeft) = some (.int j) := by
  simp [valV, penK, kn1, kn2, kn3]
theorem pen_begun {a : Addr} {i : Nat} {j : Int} : valV (penK a i j) (.inr kBegun) = some (.int (i : Int)) := by
  simp [valV, penK, kn1, kn2, kn3]
theorem pen_cells {a : Addr} {i : Nat} {j : Int} : valV (penK a i j) (.inr kCells) = some (.ref a) := by
  simp [valV, penK, kn1, kn2, kn3]
theorem put_left {a : Addr} {i : Nat} {j z : Int} : putK (penK a i j) (.inr kLeft) (.int z) = penK a i z := by
  simp [putK, penK, kn1, kn2, kn3]
theorem put_begun {a : Addr} {i k : Nat} {j : Int} : putK (penK a i j) (.inr kBegun) (.int (k : Int)) = penK a k j := by
  simp [putK, penK, kn1, kn2, kn3, kn4]
abbrev CPx (a : Addr) (xs : List Int) (i : Nat) (j : Int) : CP := CDx (penK a i j) [(.ref a, IL xs)]
abbrev Pq := Addr × List Int × Nat × Int
abbrev okP (n : Nat) (x : Pq) : Prop := x.2.1.length ≤ 63 ∧ x.2.2.1 ≤ n ∧ 0 ≤ x.2.2.2
abbrev CPen (n : Nat) : CP := CEx (okP n) fun x : Pq => CPx x.1 x.2.1 x.2.2.1 x.2.2.2
theorem pen_w {n m : Nat} (h : n ≤ m) : ∀ o H, (CPen n).p o H → (CPen m).p o H := fun o H ⟨x, ⟨h1, h2, h3⟩, h4⟩ => ⟨x, ⟨h1, Nat.le_trans h2 h, h3⟩, h4⟩
theorem mo_w {q : Addr} {C C' : CP} (h : ∀ o H, C.p o H → C'.p o H) : ∀ H0 H, MO [(q, C)] H0 H → MO [(q, C')] H0 H := fun H0 H m => ⟨m.1, fun c hc => by
  have hc := List.mem_singleton.mp hc
  subst hc
  obtain ⟨k1, u, k2, k3⟩ := m.2 (q, C) (.head _)
  exact ⟨k1, u, k2, h _ _ k3⟩⟩
section
variable {P : Program} {w : World} {K : PySem.W.Frag} {mg : Str → Option Value} {base : Heap}
abbrev sDr : Stmt := top 57
abbrev nDr : List Str := ["_law_pen_here", "_law_many", "_law_digit", "_law_place", "_law_size", "_law_told", "_law_blend"]
theorem scDr : FnScope nDr ["_law_pen_here", "_law_many"] (defScope sDr) := ⟨rfl, rfl, rfl, by decide +kernel, rfl, by decide +kernel, by decide +kernel⟩
/-- a number below m -/
abbrev Dg (m : Nat) : VP := ExP (fun d : Nat => d < m) fun d => Vl (.int (d : Int))
abbrev spDr : Sp := spG (α := Addr × Nat × Nat) (fun y => y.2.1 < 1000000 ∧ 0 < y.2.2 ∧ y.2.2 < 1000000) (fun y => [Rf y.1, Vl (.int (y.2.2 : Int))]) (fun y => [(y.1, CPen y.2.1)]) (fun y => Dg y.2.2) (fun y => [(y.1, CPen (y.2.1 + 1))])
theorem dg_mod {z : Int} {m : Nat} (h : 0 < m) : ∃ d : Nat, d < m ∧ z % (m : Int) = (d : Int) := by
  have h1 : (0 : Int) ≤ z % (m : Int) := Int.emod_nonneg _ (by omega)
  have h2 : z % (m : Int) < (m : Int) := Int.emod_lt_of_pos _ (by omega)
  exact ⟨(z % (m : Int)).toNat, by omega, by omega⟩
theorem lg_m {m : Nat} (h : 0 < m) (h2 : m < 1000000) : (m : Int).natAbs.log2 < 9000 := by
  rw [Int.natAbs_natCast]
  exact Nat.lt_trans ((Nat.log2_lt (k := 20) (by omega)).mpr (Nat.lt_trans h2 (by decide))) (by decide)
theorem c_Dr (D : Dfn K mg "_law_draw" sDr ["_law_pen_here", "_law_many"]) (T : Bt mg) : Cal P w K mg base 1 "_law_draw" ["_law_pen_here", "_law_many"] spDr := D.cal fun f fd F => by
  refine fn_ok F scDr (fun _ _ => rfl) ?_
  rintro ⟨q, n, m⟩ ⟨hn, hm, hm2⟩ cdv A outer s H E B D hB hr hrt hnx
  have hn : n < 1000000 := hn
  have hm : 0 < m := hm
  have hm2 : m < 1000000 := hm2
  refine xs_openC (Ma := []) (Mb := []) ?_
  rintro ⟨a, xs, i, j⟩ ⟨hx, hi, hj⟩
  have hx : xs.length ≤ 63 := hx
  have hi : i ≤ n := hi
  have hj : 0 ≤ j := hj
  have gl : ∀ (o : HO) H, (CPx a xs i j).p o H → o = .dK (penK a i j) ∧ (Vl (.int j)).p (.int j) H := fun o H h => ⟨h.1, rfl⟩
  refine xs_when (xt_cmp op_gt (rv_i0 (i := j) (j := 0)) (xe_cget (v := .int j) (un1 hr) (v 0) xe_str (.head _) gl pen_left) xe_int (nomark _)) (fun _ => ?_) (fun _ => ?_)
  · refine xs_set (i := 2) (P := Dg m) (M1 := [(q, CPx a xs i j)]) (XE.w (xe_op op_mod (rv_i (i := j) (j := (m : Int)) (show (0 : Int) < (m : Int) by omega)) (xe_callTy call_int1 rc_int (by rfl) T.int PyProof.Rows.boot_int (xa_cons (xe_cget (v := .int j) (un1 hr) (v 0) xe_str (.head _) gl pen_left) xa_nil)) (v 1)) fun v H p => ?_) scDr.nd rfl (.inl rfl) ?_
    · have p : v = .int (j % (m : Int)) := p
      obtain ⟨d, h1, h2⟩ := dg_mod (z := j) hm
      exact ⟨d, h1, by rw [p, h2]; rfl⟩
    refine xs_cput (Ma := []) (Mb := []) (C' := CPx a xs i (j / (m : Int))) (un1 hr) (xe_op op_fdivW (rv_i (i := j) (j := (m : Int)) ⟨show (0 : Int) < (m : Int) by omega, ?_⟩) (xe_cget (v := .int j) (un1 hr) (v 0) xe_str (.head _) gl pen_left) (v 1)) (v 0) xe_str (fun u o H hu hC => ?_) ?_
    · exact lg_m hm hm2
    · have hu : u = .int (j / (m : Int)) := hu
      subst hu
      obtain ⟨h1, h2⟩ := hC
      exact ⟨penK a i j, h1, by rw [sizeLine_eq]; exact (by decide : 3 < 16777216), by rw [put_left], h2⟩
    · refine xs_done hrt (v 2) (fun _ _ p => p) (mo_w fun o H h => ⟨(a, xs, i, j / (m : Int)), ⟨hx, Nat.le_succ_of_le hi, Int.ediv_nonneg hj (by omega)⟩, h⟩)
  · have gb : ∀ (o : HO) H, (CPx a xs i j).p o H → o = .dK (penK a i j) ∧ (Vl (.int (i : Int))).p (.int (i : Int)) H := fun o H h => ⟨h.1, rfl⟩
    have gc : ∀ j i (o : HO) H, (CPx a xs i j).p o H → o = .dK (penK a i j) ∧ (IL xs).p (.ref a) H := fun j i o H h => ⟨h.1, h.2 _ (.head _)⟩
    refine xs_par (i := 3) (j := 4) rfl scDr.nd rfl rfl (by decide) rfl rfl (xa_cons (xe_cget (v := .int (i : Int)) (un1 hr) (v 0) xe_str (.head _) gb pen_begun) (xa_cons (P := Vl (.int (xs.length : Int))) (XE.w (xe_callB call_len_seq rc_lenL (by rfl) T.len bt_len (xa_cons (xe_cget (P := IL xs) (v := .ref a) (un1 hr) (v 0) xe_str (.head _) (gc j i) pen_cells) xa_nil)) fun v H p => ?_) xa_nil)) ?_
    · rw [List.length_map] at p
      exact p
    refine xs_cput (Ma := []) (Mb := []) (C' := CPx a xs (i + 1) j) (un1 hr) (xe_op op_add (rv_i0 (i := (i : Int)) (j := 1)) (v 3) xe_int) (v 0) xe_str (fun u o H hu hC => ?_) ?_
    · have hu : u = .int ((i + 1 : Nat) : Int) := hu
      subst hu
      obtain ⟨h1, h2⟩ := hC
      exact ⟨penK a i j, h1, by rw [sizeLine_eq]; exact (by decide : 3 < 16777216), by rw [put_begun], h2⟩
    refine xs_set (i := 5) (P := II fun _ => True) (M1 := [(q, CPx a xs (i + 1) j)]) ?_ scDr.nd rfl (.inl rfl) ?_
    · refine xe_if (xt_cmp op_gt (rv_i0 (i := (xs.length : Int)) (j := 0)) (v 4) xe_int (nomark _)) (fun ht => ?_) (fun _ => ?_) rfl
      · have hl : 0 < xs.length := by
          have := of_decide_eq_true ht.symm
          omega
        refine XE.w (xe_ix ix_list (fun _ _ => rfl) (rv_ixL (il_at (r := xs) (k := i % xs.length) (Nat.mod_lt _ hl))) (xe_cget (P := IL xs) (v := .ref a) (un1 hr) (v 0) xe_str (.head _) (gc j (i + 1)) pen_cells) (XE.w (xe_op op_mod (rv_i (i := (i : Int)) (j := (xs.length : Int)) (show (0 : Int) < (xs.length : Int) by omega)) (xe_callTy call_int1 rc_int (by rfl) T.int PyProof.Rows.boot_int (xa_cons (v 3) xa_nil)) (v 4)) fun v H p => ?_)) fun v H p => ⟨_, trivial, p⟩
        have p : v = .int ((i : Int) % (xs.length : Int)) := p
        rw [p]
        show V.int _ = V.int _
        rw [Int.natCast_emod]
      · exact XE.w (xe_op op_add rv_i0 (xe_op op_mulW (rv_i (i := 59) (j := (i : Int)) (mulOk (a := 6) (b := 20) (by decide) (by show i ≤ 1048576; omega) (by decide))) xe_int (v 3)) xe_int) fun v H p => ⟨_, trivial, p⟩
    refine xs_openI (i := 5) rfl fun z _ => ?_
    refine xs_when (p := (· = (decide ((i : Int) < (xs.length : Int)) && decide ((10 : Int) ^ (18 : Int).toNat ≤ (z.natAbs : Int))))) (XW.xt (xw_and (xt_cmp op_lt (rv_i0 (i := (i : Int)) (j := (xs.length : Int))) (v 3) (v 4) (nomark _)) fun _ => xw_one (xt_cmp op_ge (rv_i0 (i := (z.natAbs : Int)) (j := (10 : Int) ^ (18 : Int).toNat)) (xe_callB call_abs rc_abs (by rfl) T.abs PyProof.Rows.boot_abs (xa_cons (v 5) xa_nil)) (xe_op op_pow (rv_i (i := 10) (j := 18) ⟨by decide, by decide, by decide⟩) xe_int xe_int) (nomark _)))) (fun ht => ?_) (fun _ => ?_)
    · have ht := (Bool.and_eq_true _ _ ▸ ht.symm : _ ∧ _).2
      have ht : (10 : Int) ^ (18 : Int).toNat ≤ (z.natAbs : Int) := of_decide_eq_true ht
      refine xs_cput (Ma := []) (Mb := []) (C' := CPx a xs (i + 1) (((z.natAbs : Int) - (10 : Int) ^ (18 : Int).toNat) / (m : Int))) (un1 hr) (xe_op op_fdivW (rv_i (i := (z.natAbs : Int) - (10 : Int) ^ (18 : Int).toNat) (j := (m : Int)) ⟨show (0 : Int) < (m : Int) by omega, lg_m hm hm2⟩) (xe_op op_sub (rv_i0 (i := (z.natAbs : Int)) (j := (10 : Int) ^ (18 : Int).toNat)) (xe_callB call_abs rc_abs (by rfl) T.abs PyProof.Rows.boot_abs (xa_cons (v 5) xa_nil)) (xe_op op_pow (rv_i (i := 10) (j := 18) ⟨by decide, by decide, by decide⟩) xe_int xe_int)) (v 1)) (v 0) xe_str (fun u o H hu hC => ?_) ?_
      · have hu : u = .int (((z.natAbs : Int) - (10 : Int) ^ (18 : Int).toNat) / (m : Int)) := hu
        subst hu
        obtain ⟨h1, h2⟩ := hC
        exact ⟨penK a (i + 1) j, h1, by rw [sizeLine_eq]; exact (by decide : 3 < 16777216), by rw [put_left], h2⟩
      · refine xs_done hrt (xe_op op_mod (rv_i (i := (z.natAbs : Int) - (10 : Int) ^ (18 : Int).toNat) (j := (m : Int)) (show (0 : Int) < (m : Int) by omega)) (xe_callTy call_int1 rc_int (by rfl) T.int PyProof.Rows.boot_int (xa_cons (xe_op op_sub (rv_i0 (i := (z.natAbs : Int)) (j := (10 : Int) ^ (18 : Int).toNat)) (xe_callB call_abs rc_abs (by rfl) T.abs PyProof.Rows.boot_abs (xa_cons (v 5) xa_nil)) (xe_op op_pow (rv_i (i := 10) (j := 18) ⟨by decide, by decide, by decide⟩) xe_int xe_int)) xa_nil)) (v 1)) (fun v H p => ?_) (mo_w fun o H h => ⟨(a, xs, i + 1, _), ⟨hx, Nat.succ_le_succ hi, Int.ediv_nonneg (by omega) (by omega)⟩, h⟩)
        have p : v = .int (((z.natAbs : Int) - (10 : Int) ^ (18 : Int).toNat) % (m : Int)) := p
        obtain ⟨d, h1, h2⟩ := dg_mod (z := (z.natAbs : Int) - (10 : Int) ^ (18 : Int).toNat) hm
        exact ⟨d, h1, by rw [p, h2]; rfl⟩
    · have z1 : (0 : Int) ≤ z % 4294967231 ∧ z % 4294967231 < 4294967231 := ⟨Int.emod_nonneg _ (by decide), Int.emod_lt_of_pos _ (by decide)⟩
      refine xs_set (i := 6) (P := II fun b => 0 ≤ b ∧ b < 4294967296) (M1 := [(q, CPx a xs (i + 1) j)]) (XE.w (xe_op op_mod (rv_i (i := z % 4294967231 * 48611 + 30071 * (i : Int) * (i : Int) + 1019) (j := 4294967279) (by decide)) (xe_callTy call_int1 rc_int (by rfl) T.int PyProof.Rows.boot_int (xa_cons (xe_op op_add rv_i0 (xe_op op_add rv_i0 (xe_op op_mulW (rv_i (mulOk (a := 32) (b := 16) (by show _ ≤ 4294967296; omega) (by decide) (by decide))) (xe_op op_mod (rv_i (i := z) (j := 4294967231) (by decide)) (xe_callTy call_int1 rc_int (by rfl) T.int PyProof.Rows.boot_int (xa_cons (v 5) xa_nil)) xe_int) xe_int)
        (xe_op op_mulW (rv_i (mulOk (a := 35) (b := 20) (by show _ ≤ 34359738368; omega) (by show _ ≤ 1048576; omega) (by decide))) (xe_op op_mulW (rv_i (mulOk (a := 15) (b := 20) (by decide) (by show _ ≤ 1048576; omega) (by decide))) xe_int (v 3)) (v 3))) xe_int) xa_nil)) xe_int) fun v H p => ⟨_, ⟨Int.emod_nonneg _ (by decide), Int.lt_trans (Int.emod_lt_of_pos _ (by decide)) (by decide)⟩, p⟩) scDr.nd rfl (.inl rfl) ?_
      refine xs_openI (i := 6) rfl fun y hy => ?_
      have hy : 0 ≤ y ∧ y < 4294967296 := hy
      refine xs_set (i := 6) (P := II fun b => 0 ≤ b ∧ b < 4294967296) (M1 := [(q, CPx a xs (i + 1) j)]) (XE.w (xe_op op_mod (rv_i (i := y * y + 65543 * y + 31 * (i : Int) + 7) (j := 4294967291) (by decide)) (xe_callTy call_int1 rc_int (by rfl) T.int PyProof.Rows.boot_int (xa_cons (xe_op op_add rv_i0 (xe_op op_add rv_i0 (xe_op op_add rv_i0 (xe_op op_mulW (rv_i (mulOk (a := 32) (b := 32) (by show _ ≤ 4294967296; omega) (by show _ ≤ 4294967296; omega) (by decide))) (v 6) (v 6)) (xe_op op_mulW (rv_i (mulOk (a := 17) (b := 32) (by decide) (by show _ ≤ 4294967296; omega) (by decide))) xe_int (v 6))) (xe_op op_mulW (rv_i (mulOk (a := 5) (b := 20) (by decide) (by show _ ≤ 1048576; omega) (by decide))) xe_int (v 3))) xe_int) xa_nil)) xe_int) fun v H p => ⟨_, ⟨Int.emod_nonneg _ (by decide), Int.lt_trans (Int.emod_lt_of_pos _ (by decide)) (by decide)⟩, p⟩) scDr.nd rfl (.inl rfl) ?_
      refine xs_openI (i := 6) rfl fun y hy => ?_
      have hy : 0 ≤ y ∧ y < 4294967296 := hy
      refine xs_done hrt (xe_op op_mod (rv_i (i := y * (y + 49139) % 4294967197 / 64) (j := (m : Int)) (show (0 : Int) < (m : Int) by omega)) (xe_callTy call_int1 rc_int (by rfl) T.int PyProof.Rows.boot_int (xa_cons (xe_op op_fdivW (rv_i (i := y * (y + 49139) % 4294967197) (j := 64) ⟨by decide, by decide⟩) (xe_op op_mod (rv_i (i := y * (y + 49139)) (j := 4294967197) (by decide)) (xe_callTy call_int1 rc_int (by rfl) T.int PyProof.Rows.boot_int (xa_cons (xe_op op_mulW (rv_i (mulOk (a := 32) (b := 33) (by show _ ≤ 4294967296; omega) (by show _ ≤ 8589934592; omega) (by decide))) (v 6) (xe_op op_add rv_i0 (v 6) xe_int)) xa_nil)) xe_int) xe_int) xa_nil)) (v 1)) (fun v H p => ?_) (mo_w fun o H h => ⟨(a, xs, i + 1, j), ⟨hx, Nat.succ_le_succ hi, hj⟩, h⟩)
      have p : v = .int ((y * (y + 49139) % 4294967197 / 64) % (m : Int)) := p
      obtain ⟨d, h1, h2⟩ := dg_mod (z := y * (y + 49139) % 4294967197 / 64) hm
      exact ⟨d, h1, by rw [p, h2]; rfl⟩
end
end Y
/-! text Zu -/
set_option Elab.async false
set_option linter.all false
set_option maxRecDepth 100000
namespace Y
open PySem PySem.Spec PyProof.Rows L2
section
variable {L : List Addr} {P1 P2 P3 : VP}
theorem rv_exr {α : Type} {f : α → Prop} {Q R : α → VP} {r : R2} (h : ∀ x, f x → RV L r P1 (Q x) (R x)) : RV L r P1 (ExP f Q) (ExP f R) := fun x y H H0 s p1 ⟨u, fu, p2⟩ Q k => h u fu x y H H0 s p1 p2 Q fun z H' H0' g pz => k z H' H0' g ⟨u, fu, pz⟩
theorem rv_exrW {α : Type} {f : α → Prop} {Q : α → VP} {r : R2} (h : ∀ x, f x → RV L r P1 (Q x) P3) : RV L r P1 (ExP f Q) P3 := fun x y H H0 s p1 ⟨u, fu, p2⟩ Q k => h u fu x y H H0 s p1 p2 Q k
end
section
variable {P : Program} {w : World} {K : PySem.W.Frag} {mg : Str → Option Value} {base : Heap}
theorem xcq {X : Cx} {e : Expr} {G : Gam} {M M1 M2 : Ml} {P' : VP} {pos : Pos} {x : Str} {α : Type} {pre : α → Prop} {As : α → List VP} {Mi Mo : α → Ml} {R : α → VP} {k : Nat} {ps : List Str} {es : List Expr} {p : Pos} (Mf : Ml) (C : Cal X.prog X.w X.K X.mg X.base k x ps (spG pre As Mi R Mo)) (hr : Room k X.A) (y : α) (ha : XA X [] (e :: es) G M (As y) M1) (hpre : pre y) (hM1 : M1 = Mi y ++ Mf) (hM2 : M2 = Mo y ++ Mf) (hw : ∀ v H, (R y).p v H → P'.p v H) (had : ads (Mo y) = ads (Mi y) := by rfl) (hg : Gl X x := by rfl)
    (hdb : (x == ("__debug__" : Str)) = false := by decide) (he : starEach (e :: es) X.env = (false, eval e X.env) :: starEach es X.env := by rfl) (hpl : (backTo pos (starEach es X.env)).any (·.1) = false := by rfl) : XE X [] (.Call (.Name x p) (e :: es) [] pos) G M P' M2 := by
  subst hM1 hM2
  exact (xc C hr y ha hpre had hg hdb he hpl).w hw
/-! pick -/
abbrev sPk : Stmt := top 58
theorem scPk : FnScope ["_law_pen_here", "_law_options"] ["_law_pen_here", "_law_options"] (defScope sPk) := ⟨rfl, rfl, rfl, by decide +kernel, rfl, by decide +kernel, by decide +kernel⟩
/-- one of some values -/
abbrev OneOf (Ps : List VP) : VP := ExP (fun P : VP => P ∈ Ps) fun P => P
abbrev spPk : Sp := spG (α := Addr × Nat × List VP) (fun y => y.2.1 < 1000000 ∧ 0 < y.2.2.length ∧ y.2.2.length < 1000000) (fun y => [Rf y.1, Ls y.2.2]) (fun y => [(y.1, CPen y.2.1)]) (fun y => OneOf y.2.2) (fun y => [(y.1, CPen (y.2.1 + 1))])
theorem c_Pk (D : Dfn K mg "_law_pick" sPk ["_law_pen_here", "_law_options"]) (T : Bt mg) (cDr : Cal P w K mg base 1 "_law_draw" ["_law_pen_here", "_law_many"] spDr) : Cal P w K mg base 2 "_law_pick" ["_law_pen_here", "_law_options"] spPk := D.cal fun f fd F => by
  refine fn_ok F scPk (fun _ _ => rfl) ?_
  rintro ⟨q, n, Ps⟩ ⟨hn, hm, hm2⟩ cdv A outer s H E B D hB hr hrt hnx
  refine xs_done hrt (xe_ix ix_list (fun _ _ => rfl) (rv_exrW (f := fun d : Nat => d < Ps.length) (Q := fun d => Vl (.int (d : Int))) (P3 := OneOf Ps) fun d hd => ?_) (v 1) (xcq [] cDr hr (q, n, Ps.length) (xa_cons (v 0) (xa_cons (xe_callB call_len_seq rc_lenL (by rfl) T.len bt_len (xa_cons (v 1) xa_nil)) xa_nil)) ⟨hn, hm, hm2⟩ rfl rfl fun _ _ p => p))
  have e : Ps[d]? = some Ps[d] := List.getElem?_eq_getElem hd
  intro x y H H0 s p1 p2 Q k
  exact rv_ixL e x y H H0 s p1 p2 Q fun z H' H0' g pz => k z H' H0' g ⟨Ps[d], List.getElem_mem hd, pz⟩
/-- a sign of a text -/
abbrev Sg (z : Str) : VP := ExP (fun c : Nat => c ∈ z.cps.toList) fun c => Vl (.str ⟨#[c]⟩)
abbrev spPkS : Sp := spG (α := Addr × Nat × Str) (fun y => y.2.1 < 1000000 ∧ 0 < y.2.2.length ∧ y.2.2.length < 1000000) (fun y => [Rf y.1, Vl (.str y.2.2)]) (fun y => [(y.1, CPen y.2.1)]) (fun y => Sg y.2.2) (fun y => [(y.1, CPen (y.2.1 + 1))])
theorem c_PkS (D : Dfn K mg "_law_pick" sPk ["_law_pen_here", "_law_options"]) (T : Bt mg) (cDr : Cal P w K mg base 1 "_law_draw" ["_law_pen_here", "_law_many"] spDr) : Cal P w K mg base 2 "_law_pick" ["_law_pen_here", "_law_options"] spPkS := D.cal fun f fd F => by
  refine fn_ok F scPk (fun _ _ => rfl) ?_
  rintro ⟨q, n, z⟩ ⟨hn, hm, hm2⟩ cdv A outer s H E B D hB hr hrt hnx
  have hm : 0 < z.length := hm
  have hm2 : z.length < 1000000 := hm2
  refine xs_done hrt (xe_ix ix_str (fun _ _ => rfl) (rv_exrW (f := fun d : Nat => d < z.length) (Q := fun d => Vl (.int (d : Int))) (P3 := Sg z) fun d hd => ?_) (v 1) (xcq [] cDr hr (q, n, z.length) (xa_cons (v 0) (xa_cons (xe_callB call_len (rc_lenS (by rw [sizeLine_eq]; omega)) (by rfl) T.len bt_len (xa_cons (v 1) xa_nil)) xa_nil)) ⟨hn, hm, hm2⟩ rfl rfl fun _ _ p => p))
  have hd' : d < z.cps.toList.length := by rw [Array.length_toList]; exact hd
  exact rv_of fun x y H H0 s p1 p2 Q k => ⟨z, d, z.cps.toList[d], p1, p2, by rw [sizeLine_eq]; omega, atI_nat (List.getElem?_eq_getElem hd'), k _ ⟨_, List.getElem_mem hd', rfl⟩⟩
/-! great, times -/
abbrev sGr : Stmt := top 60
abbrev nGr : List Str := ["_law_pen_here", "_law_figures", "_law_found", "_law_k"]
theorem scGr : FnScope nGr ["_law_pen_here", "_law_figures"] (defScope sGr) := ⟨rfl, rfl, rfl, by decide +kernel, rfl, by decide +kernel, by decide +kernel⟩
abbrev Nn (m : Nat) : VP := Dg m
abbrev spGr : Sp := spG (α := Addr × Nat) (fun y => y.2 < 900000) (fun y => [Rf y.1, Vl (.int 6)]) (fun y => [(y.1, CPen y.2)]) (fun y => Dg 1000000) (fun y => [(y.1, CPen (y.2 + 6))])
theorem c_Gr (D : Dfn K mg "_law_great" sGr ["_law_pen_here", "_law_figures"]) (T : Bt mg) (cDr : Cal P w K mg base 1 "_law_draw" ["_law_pen_here", "_law_many"] spDr) : Cal P w K mg base 2 "_law_great" ["_law_pen_here", "_law_figures"] spGr := D.cal fun f fd F => by
  refine fn_ok F scGr (fun _ _ => rfl) ?_
  rintro ⟨q, n⟩ hn cdv A outer s H E B D hB hr hrt hnx
  have hn : n < 900000 := hn
  refine xs_set (i := 2) (P := Vl (.int ((0 : Nat) : Int))) xe_int scGr.nd rfl (.inl rfl) ?_
  refine xs_for (ι := Nat) PassesOwn.never rfl (xi_range (n := 6) (by rfl) T.range (v 1) (by decide)) (fun i x => x < 10 ^ i) (fun i x => [some (Rf q), some (Vl (.int 6)), some (Vl (.int (x : Int))), none]) (fun i _ => [(q, CPen (n + i))]) ⟨0, by decide, (fun _ _ h => h), rfl, fun _ _ h => h⟩ (fun _ _ _ _ _ _ => MO.nil) ?_ ?_
  · rintro i x Q B' bl hQ hx
    have hi : i < 6 := by
      have := (List.getElem?_eq_some_iff.mp hQ).1
      rw [rngP_len] at this
      exact this
    have hx : x < 10 ^ i := hx
    have hx6 : x < 1000000 := Nat.lt_of_lt_of_le hx (Nat.pow_le_pow_right (n := 10) (by decide) (by omega : i ≤ 6))
    rw [rngP_at hi] at hQ
    cases hQ
    refine ⟨[3], _, xg_name (i := 3) scGr.nd rfl (.inl rfl), ?_⟩
    refine xs_asgX (js := [2]) (f := fun d : Nat => d < 10) (Q := fun d : Nat => Vl (.int ((10 * x + d : Nat) : Int))) (M1 := [(q, CPen (n + (i + 1)))]) (xe_op op_add (rv_exr (f := fun d : Nat => d < 10) (Q := fun d => Vl (.int (d : Int))) fun d hd => rv_of fun a b H H0 s p1 p2 Q k => ⟨10 * (x : Int), (d : Int), p1, p2, k _ (show V.int _ = V.int _ by rw [Int.natCast_add, Int.natCast_mul]; rfl)⟩) (xe_op op_mulW (rv_i (i := 10) (j := (x : Int)) (mulOk (a := 4) (b := 20) (by decide) (by show x ≤ 1048576; omega) (by decide))) xe_int (v 2)) (xcq [] cDr hr (q, n + i, 10) (xa_cons (v 0) (xa_cons xe_int xa_nil)) ⟨by show n + i < 1000000; omega, (by decide : 0 < 10), (by decide : 10 < 1000000)⟩ rfl rfl fun _ _ p => p)) ?_
    intro d hd
    have hd : d < 10 := hd
    refine ⟨_, xg_name (i := 2) scGr.nd rfl (.inl rfl), ?_⟩
    refine xs_nil fun σ H h => ⟨10 * x + d, ?_, h.unset 3⟩
    show 10 * x + d < 10 ^ (i + 1)
    rw [Nat.pow_succ]
    omega
  · rintro x hx
    rw [rngP_len] at hx ⊢
    exact xs_done hrt (v 2) fun v H p => ⟨x, hx, p⟩
end
end Y
/-! text Zv -/
set_option Elab.async false
set_option linter.all false
set_option maxRecDepth 100000
namespace Y
open PySem PySem.Spec PyProof.Rows L2
theorem XE.m {X : Cx} {L : List Addr} {e : Expr} {G : Gam} {M M1 M2 : Ml} {P : VP} (h : XE X L e G M P M1) (hm : ∀ H0 H, MO M1 H0 H → MO M2 H0 H) (ad : ads M2 = ads M1) : XE X L e G M P M2 := ⟨ad.trans h.ad, fun σ H H0 s l m Q k => h.run σ H H0 s l m Q fun v H' H0' g m' p => k v H' H0' g (hm _ _ m') p⟩
theorem XE.pen {X : Cx} {e : Expr} {G : Gam} {M : Ml} {P : VP} {q : Addr} {n m : Nat} (h : XE X [] e G M P [(q, CPen n)]) (hn : n ≤ m) : XE X [] e G M P [(q, CPen m)] := h.m (mo_w (pen_w hn)) rfl
section
variable {P : Program} {w : World} {K : PySem.W.Frag} {mg : Str → Option Value} {base : Heap}
abbrev sTi : Stmt := top 61
abbrev nTi : List Str := ["_law_pen_here", "_law_way"]
theorem scTi : FnScope nTi ["_law_pen_here"] (defScope sTi) := ⟨rfl, rfl, rfl, by decide +kernel, rfl, by decide +kernel, by decide +kernel⟩
/-- how many times -/
abbrev Tm : VP := ExP (fun t : Nat => 1 ≤ t ∧ t ≤ 1000000) fun t => Vl (.int (t : Int))
abbrev spTi : Sp := spG (α := Addr × Nat) (fun y => y.2 < 800000) (fun y => [Rf y.1]) (fun y => [(y.1, CPen y.2)]) (fun y => Tm) (fun y => [(y.1, CPen (y.2 + 7))])
theorem tm_at {d : Nat} (h : d < 6) : ∃ P, ([Vl (.int 1), Vl (.int 1), Vl (.int 2), Vl (.int 2), Vl (.int 3), Vl (.int 4)] : List VP)[d]? = some P ∧ ∀ v H, P.p v H → Tm.p v H := by
  match d, h with
  | 0, _ => exact ⟨_, rfl, fun v H p => ⟨1, ⟨by decide, by decide⟩, p⟩⟩
  | 1, _ => exact ⟨_, rfl, fun v H p => ⟨1, ⟨by decide, by decide⟩, p⟩⟩
  | 2, _ => exact ⟨_, rfl, fun v H p => ⟨2, ⟨by decide, by decide⟩, p⟩⟩
  | 3, _ => exact ⟨_, rfl, fun v H p => ⟨2, ⟨by decide, by decide⟩, p⟩⟩
  | 4, _ => exact ⟨_, rfl, fun v H p => ⟨3, ⟨by decide, by decide⟩, p⟩⟩
  | 5, _ => exact ⟨_, rfl, fun v H p => ⟨4, ⟨by decide, by decide⟩, p⟩⟩
theorem c_Ti (D : Dfn K mg "_law_times" sTi ["_law_pen_here"]) (T : Bt mg) (cDr : Cal P w K mg base 1 "_law_draw" ["_law_pen_here", "_law_many"] spDr) (cGr : Cal P w K mg base 2 "_law_great" ["_law_pen_here", "_law_figures"] spGr) : Cal P w K mg base 3 "_law_times" ["_law_pen_here"] spTi := D.cal fun f fd F => by
  refine fn_ok F scTi (fun _ _ => rfl) ?_
  rintro ⟨q, n⟩ hn cdv A outer s H E B D hB hr hrt hnx
  have hn : n < 800000 := hn
  refine xs_asgX (js := [1]) (f := fun d : Nat => d < 8) (Q := fun d : Nat => Vl (.int (d : Int))) (M1 := [(q, CPen (n + 1))]) (xcq [] cDr (hr.mono (by omega)) (q, n, 8) (xa_cons (v 0) (xa_cons xe_int xa_nil)) ⟨by show n < 1000000; omega, (by decide : 0 < 8), (by decide : 8 < 1000000)⟩ rfl rfl fun _ _ p => p) ?_
  intro d hd
  refine ⟨_, xg_name (i := 1) scTi.nd rfl (.inl rfl), ?_⟩
  refine xs_when (M1 := [(q, CPen (n + 1))]) (xt_cmp op_lt (rv_i0 (i := (d : Int)) (j := 6)) (v 1) xe_int (nomark _)) (fun ht => ?_) (fun _ => ?_)
  · have h6 : d < 6 := by
      have := of_decide_eq_true ht.symm
      omega
    obtain ⟨P1, h1, h2⟩ := tm_at h6
    exact xs_done hrt (XE.w (xe_ix ix_list (fun _ _ => rfl) (rv_ixL (n := d) h1) (xe_lst (xa_cons xe_int (xa_cons xe_int (xa_cons xe_int (xa_cons xe_int (xa_cons xe_int (xa_cons xe_int xa_nil)))))) (by rw [sizeLine_eq]; exact (by decide : 6 ≤ 16777216))) (v 1)) h2) (fun _ _ p => p) (mo_w (pen_w (by omega)))
  · refine xs_done (M1 := [(q, CPen (n + 7))]) hrt (xe_if (P := Tm) (M2 := [(q, CPen (n + 7))]) (xt_cmp op_eq (rv_eqI (i := (d : Int)) (j := 6)) (v 1) xe_int (nomark _)) (fun _ => ?_) (fun _ => ?_) rfl)
    · refine XE.pen (n := n + 2) (XE.w (xe_op op_add (rv_exr (f := fun d : Nat => d < 11) (Q := fun d => Vl (.int (d : Int))) (R := fun d => Vl (.int (2 + (d : Int)))) fun d hd => rv_i0) xe_int (xcq [] cDr (hr.mono (by omega)) (q, n + 1, 11) (xa_cons (v 0) (xa_cons xe_int xa_nil)) ⟨by show n + 1 < 1000000; omega, (by decide : 0 < 11), (by decide : 11 < 1000000)⟩ rfl rfl fun _ _ p => p)) fun v H ⟨x, hx, p⟩ => ⟨2 + x, ⟨by omega, by have hx : x < 11 := hx; omega⟩, ?_⟩) (by omega)
      have p : v = .int (2 + (x : Int)) := p
      rw [p]
      show V.int _ = V.int _
      rw [Int.natCast_add]
      rfl
    · refine XE.w (xe_op op_add (rv_exr (f := fun d : Nat => d < 1000000) (Q := fun d => Vl (.int (d : Int))) (R := fun d => Vl (.int (1 + (d : Int)))) fun d hd => rv_i0) xe_int (xcq [] cGr hr (q, n + 1) (xa_cons (v 0) (xa_cons xe_int xa_nil)) (by show n + 1 < 900000; omega) rfl rfl fun _ _ p => p)) fun v H ⟨x, hx, p⟩ => ⟨1 + x, ⟨by omega, by have hx : x < 1000000 := hx; omega⟩, ?_⟩
      have p : v = .int (1 + (x : Int)) := p
      rw [p]
      show V.int _ = V.int _
      rw [Int.natCast_add]
      rfl
end
end Y
/-! text Zw -/
set_option Elab.async false
set_option linter.all false
set_option maxRecDepth 100000
namespace Y
open PySem PySem.Spec PyProof.Rows L2 Mt
section
variable {P : Program} {w : World} {K : PySem.W.Frag} {mg : Str → Option Value} {base : Heap}
abbrev sLe : Stmt := top 70
abbrev nLe : List Str := ["_law_row_here", "_law_k"]
theorem scLe : FnScope nLe ["_law_row_here"] (defScope sLe) := ⟨rfl, rfl, rfl, by decide +kernel, rfl, by decide +kernel, by decide +kernel⟩
abbrev spLe : Sp := spP (α := Row × Nat) (fun y => y.1.length < 64 ∧ y.2 < y.1.length ∧ (∀ j, j < y.2 → Mt.at_ y.1 j = 0) ∧ Mt.at_ y.1 y.2 ≠ 0) (fun y => [IL y.1]) (fun y => Vl (.int (y.2 : Int)))
theorem filter_first {r : Row} {c : Nat} : ∀ n, c < n → (∀ j, j < c → Mt.at_ r j = 0) → Mt.at_ r c ≠ 0 → ((List.range n).filter fun k => Mt.at_ r k != 0)[0]? = some c := by
  intro n hc h1 h2
  have e : List.range n = List.range c ++ (c :: List.range' (c + 1) (n - c - 1)) := by
    rw [List.range_eq_range', List.range_eq_range', ← List.range'_succ, show List.range' c (n - c - 1 + 1) = List.range' (0 + c) (n - c - 1 + 1) by rw [Nat.zero_add], List.range'_append_1]
    congr 1
    omega
  rw [e, List.filter_append]
  have e1 : (List.range c).filter (fun k => Mt.at_ r k != 0) = [] := by
    rw [List.filter_eq_nil_iff]
    intro j hj
    have := h1 j (List.mem_range.mp hj)
    simp [this]
  have e2 : (Mt.at_ r c != 0) = true := by simpa using h2
  rw [e1, List.nil_append, List.filter_cons, if_pos e2]
  rfl
theorem c_Le (D : Dfn K mg "_law_lead" sLe ["_law_row_here"]) (T : Bt mg) : Cal P w K mg base 1 "_law_lead" ["_law_row_here"] spLe := D.cal fun f fd F => by
  refine fn_ok F scLe (fun _ _ => rfl) ?_
  rintro ⟨r, c⟩ ⟨hl, hc, h1, h2⟩ cdv A outer s H E B D hB hr hrt hnx
  have hl : r.length < 64 := hl
  refine xs_done hrt (xe_ix ix_list (fun _ _ => rfl) (rv_ixL (n := 0) (P := Vl (.int (c : Int))) ?_) (XLc.ls (xlcF (own := [("_law_k", 1)]) [1] (fun k : Nat => [some (IL r), some (Vl (.int (k : Int)))]) (List.range r.length) (fun k => Vl (.int (k : Int))) (fun k => Vl (.int (k : Int))) (fun k => Mt.at_ r k != 0) rfl scLe.nd (xi_range (by rfl) T.range (XE.w (xe_callB call_len_seq rc_lenL (by rfl) T.len bt_len (xa_cons (v 0) xa_nil)) fun v H p => ?_) (Nat.lt_trans hl (by decide))) (blkOk_by (N := nLe) (sc := defScope sLe) (by decide +kernel)) (fun _ _ h => h) (len64 (by rw [List.length_range]; exact hl)) (by decide)
    (fun k hk s H C cl fp => xg_name (i := 1) scLe.nd rfl (.inl rfl)) (fun k hk s H C cl fp => xts_one (xt_cmp op_ne rv_neI (xe_ix ix_list (fun _ _ => rfl) (rv_ixL (il_at (List.mem_range.mp hk))) (v 0) (v 1)) xe_int (nomark _))) (fun k hk _ s H C cl fp => v 1))) xe_int)
  · rw [List.getElem?_map, filter_first r.length hc h1 h2]
    rfl
  · rw [List.length_map] at p
    exact p
/-! lessened -/
abbrev sLs : Stmt := top 71
abbrev nLs : List Str := ["_law_triangle_here", "_law_row_here", "_law_found", "_law_one", "_law_k", "_law_n", "_law_i"]
theorem scLs : FnScope nLs ["_law_triangle_here", "_law_row_here"] (defScope sLs) := ⟨rfl, rfl, rfl, by decide +kernel, rfl, by decide +kernel, by decide +kernel⟩
theorem red_map {c : Nat} {s r : Row} (h : r.length = s.length) : (List.range r.length).map (fun i => Mt.at_ r i - (Mt.at_ r c).fdiv (Mt.at_ s c) * Mt.at_ s i) = Mt.red c s r := by
  have hl : (Mt.red c s r).length = r.length := (Mt.len_red h).trans h.symm
  apply List.ext_getElem?
  intro i
  rw [List.getElem?_map]
  by_cases hi : i < r.length
  · rw [List.getElem?_range hi]
    have h2 : i < (Mt.red c s r).length := by rw [hl]; exact hi
    rw [List.getElem?_eq_getElem h2]
    have h3 := Mt.at_red (k := c) h i
    unfold Mt.at_ at h3 ⊢
    rw [List.getD_eq_getElem?_getD, List.getElem?_eq_getElem h2] at h3
    have h4 : (Mt.red c s r)[i] = _ := h3
    rw [h4]
    rfl
  · rw [List.getElem?_eq_none (by rw [List.length_range]; omega), List.getElem?_eq_none (by rw [hl]; omega)]
    rfl
abbrev spLs : Sp := spP (α := List Row × Row × Nat × Nat) (fun q => PreRB q.2.2.1 q.2.2.1 q.2.2.2 q.1 q.2.1) (fun q => [ILL q.1, IL q.2.1]) (fun q => IL (Mt.redBy q.2.2.1 q.1 q.2.1))
theorem c_Ls (D : Dfn K mg "_law_lessened" sLs ["_law_triangle_here", "_law_row_here"]) (T' : Bt mg) (cLe : Cal P w K mg base 1 "_law_lead" ["_law_row_here"] spLe) : Cal P w K mg base 2 "_law_lessened" ["_law_triangle_here", "_law_row_here"] spLs := D.cal fun f fd F => by
  refine fn_ok F scLs (fun _ _ => rfl) ?_
  rintro ⟨T, vec, w, f⟩ h cdv A outer s H E B D hB hr hrt hnx
  have h : PreRB w w f T vec := h
  have hcap := h.cap
  refine xs_set (i := 2) (P := IL vec) (xe_callTy call_list_of rc_listL (by rfl) T'.list PyProof.Rows.boot_list (xa_cons (v 1) xa_nil)) scLs.nd rfl (.inr rfl) ?_
  refine xs_for (ι := Unit) PassesOwn.never rfl (xi_list (v 0)) (fun i _ => True) (fun i _ => [some (ILL T), some (IL vec), some (IL (Mt.redBy w (T.take i) vec)), none, none, none, none]) (fun _ _ => []) ⟨(), trivial, (fun _ _ h => h), rfl, fun _ _ h => h⟩ (fun _ _ _ _ _ _ => MO.nil) ?_ ?_
  · rintro i - Q B' bl hQ -
    obtain ⟨r, hir, rfl⟩ := ill_get hQ
    have hrT := List.mem_of_getElem? hir
    have hrl := h.tri.len r hrT
    obtain ⟨c, hc, hL, hp⟩ := h.tri.lead r hrT
    obtain ⟨u1, -, -, -⟩ := Mt.redBy_ok (tri_take h.tri i) h.len
    have ub := Mt.redBy_bits (tri_take h.tri i) h.len h.bd
    have tt : Mt.tot (T.take i) + (Mt.bt r + 2) ≤ Mt.tot T := tot_take hir
    have hn := h.n
    have q0 : ((Mt.at_ (Mt.redBy w (T.take i) vec) c).natAbs + 1) ≤ 2 ^ (f + Mt.tot (T.take i) + 1) := by
      have h1 := ub c
      have : 1 ≤ 2 ^ (f + Mt.tot (T.take i)) := Nat.one_le_two_pow
      rw [Nat.pow_succ]
      omega
    have hr0 : Mt.at_ r c ≠ 0 := by
      have := hL.2
      omega
    refine ⟨[3], _, xg_name (i := 3) scLs.nd rfl (.inr rfl), ?_⟩
    refine xs_set (i := 4) (P := Vl (.int (c : Int))) (xpw cLe hr (r, c) (xa_cons (v 3) xa_nil) ⟨by show r.length < 64; omega, by show c < r.length; omega, hL.1, hr0⟩ fun _ _ p => p) scLs.nd rfl (.inl rfl) ?_
    refine xs_set (i := 5) (P := Vl (.int ((Mt.at_ (Mt.redBy w (T.take i) vec) c).fdiv (Mt.at_ r c)))) (xe_op op_fdivNW (rv_i (i := Mt.at_ (Mt.redBy w (T.take i) vec) c) (j := Mt.at_ r c) ⟨hr0, Nat.lt_of_le_of_lt (log2_le_of hp) (by omega)⟩) (xe_ix ix_list (fun _ _ => rfl) (rv_ixL (il_at (by omega))) (v 2) (v 4)) (xe_ix ix_list (fun _ _ => rfl) (rv_ixL (il_at (by omega))) (v 3) (v 4))) scLs.nd rfl (.inr rfl) ?_
    have hlen : (Mt.redBy w (T.take i) vec).length = r.length := by omega
    refine xs_set (i := 2) (P := IL (Mt.redBy w (T.take (i + 1)) vec)) (M1 := []) ?_ scLs.nd rfl (.inr rfl) (xs_nil fun σ H h => ⟨(), trivial, ((h.unset 3).unset 4).unset 5⟩)
    rw [redBy_take hir, fp_lead hL hc]
    show XE _ _ _ _ _ (IL (Mt.red c r (Mt.redBy w (T.take i) vec))) _
    rw [← red_map hlen]
    refine XE.w (XLc.ls (xlcM (own := [("_law_i", 6)]) [6] (fun k : Nat => [some (ILL T), some (IL vec), some (IL (Mt.redBy w (T.take i) vec)), some (IL r), some (Vl (.int (c : Int))), some (Vl (.int ((Mt.at_ (Mt.redBy w (T.take i) vec) c).fdiv (Mt.at_ r c)))), some (Vl (.int (k : Int)))]) (List.range (Mt.redBy w (T.take i) vec).length) (fun k => Vl (.int (k : Int))) (fun k => Vl (.int (Mt.at_ (Mt.redBy w (T.take i) vec) k - (Mt.at_ (Mt.redBy w (T.take i) vec) c).fdiv (Mt.at_ r c) * Mt.at_ r k))) rfl scLs.nd (xi_range (by rfl) T'.range (XE.w (xe_callB call_len_seq rc_lenL (by rfl) T'.len bt_len (xa_cons (v 2) xa_nil)) fun v H p => ?_) (by rw [u1]; exact Nat.lt_of_le_of_lt hcap (by decide))) (blkOk_by (N := nLs) (sc := defScope sLs) (by decide +kernel)) (fun _ _ h => h) (len64 (by rw [List.length_range, u1]; omega)) (by decide)
      (fun k hk s H C cl fp => xg_name (i := 6) scLs.nd rfl (.inl rfl)) (fun k hk s H C cl fp => xe_op op_sub rv_i0 (xe_ix ix_list (fun _ _ => rfl) (rv_ixL (il_at (List.mem_range.mp hk))) (v 2) (v 6)) (xe_op op_mulW (rv_i (i := (Mt.at_ (Mt.redBy w (T.take i) vec) c).fdiv (Mt.at_ r c)) (j := Mt.at_ r k) (mulOk (a := f + Mt.tot (T.take i) + 1) (b := Mt.bt r) (Nat.le_trans (fdiv_le hr0) q0) (Mt.bt_bd r k) (by omega))) (v 5) (xe_ix ix_list (fun _ _ => rfl) (rv_ixL (il_at (by have := List.mem_range.mp hk; omega))) (v 3) (v 6)))))) fun v H p => ?_
    · rw [List.length_map] at p
      exact p
    · show (Ls ((List.map _ _).map _)).p v H
      rw [List.map_map]
      exact p
  · rintro - -
    refine xs_done hrt (v 2) fun v H p => ?_
    rw [List.length_map, List.take_length] at p
    exact p
end
end Y
/-! text Zx -/
set_option Elab.async false
set_option linter.all false
set_option maxRecDepth 100000
namespace Y
open PySem PySem.Spec PyProof.Rows L2 Mt
section
variable {P : Program} {w : World} {K : PySem.W.Frag} {mg : Str → Option Value} {base : Heap}
/-! zeros, is_in -/
abbrev sZe : Stmt := top 75
abbrev nZe : List Str := ["_law_row_here", "_law_n"]
theorem scZe : FnScope nZe ["_law_row_here"] (defScope sZe) := ⟨rfl, rfl, rfl, by decide +kernel, rfl, by decide +kernel, by decide +kernel⟩
abbrev zer (r : Row) : Bool := (r.filter fun n => n != 0).isEmpty
abbrev spZe : Sp := spP (α := Row) (fun r => r.length < 64) (fun r => [IL r]) (fun r => Vl (.bl (zer r)))
theorem c_Ze (D : Dfn K mg "_law_zeros" sZe ["_law_row_here"]) : Cal P w K mg base 1 "_law_zeros" ["_law_row_here"] spZe := D.cal fun f fd F => by
  refine fn_ok F scZe (fun _ _ => rfl) ?_
  rintro r hl cdv A outer s H E B D hB hr hrt hnx
  have hl : r.length < 64 := hl
  exact xs_done hrt (xe_cmp (op_eqD (ru hr)) rv_eqIL0 (XLc.ls (xlcF (own := [("_law_n", 1)]) [1] (fun n : Int => [some (IL r), some (Vl (.int n))]) r (fun n => Vl (.int n)) (fun n => Vl (.int n)) (fun n => n != 0) rfl scZe.nd (xi_list (v 0)) (blkOk_by (N := nZe) (sc := defScope sZe) (by decide +kernel)) (fun _ _ h => h) (len64 hl) (by decide)
    (fun k hk s H C cl fp => xg_name (i := 1) scZe.nd rfl (.inl rfl)) (fun k hk s H C cl fp => xts_one (xt_cmp op_ne rv_neI (v 1) xe_int (nomark _))) (fun k hk _ s H C cl fp => v 1))) (xe_lst xa_nil (Nat.zero_le _)) (nomark _))
abbrev sIi : Stmt := top 76
abbrev nIi : List Str := ["_law_triangle_here", "_law_row_here"]
theorem scIi : FnScope nIi ["_law_triangle_here", "_law_row_here"] (defScope sIi) := ⟨rfl, rfl, rfl, by decide +kernel, rfl, by decide +kernel, by decide +kernel⟩
abbrev spIi : Sp := spP (α := List Row × Row × Nat × Nat) (fun q => PreRB q.2.2.1 q.2.2.1 q.2.2.2 q.1 q.2.1) (fun q => [ILL q.1, IL q.2.1]) (fun q => Vl (.bl (zer (Mt.redBy q.2.2.1 q.1 q.2.1))))
theorem c_Ii (D : Dfn K mg "_law_is_in" sIi nIi) (cZe : Cal P w K mg base 1 "_law_zeros" ["_law_row_here"] spZe) (cLs : Cal P w K mg base 2 "_law_lessened" ["_law_triangle_here", "_law_row_here"] spLs) : Cal P w K mg base 3 "_law_is_in" nIi spIi := D.cal fun f fd F => by
  refine fn_ok F scIi (fun _ _ => rfl) ?_
  rintro ⟨T, vec, w, f⟩ h cdv A outer s H E B D hB hr hrt hnx
  have h : PreRB w w f T vec := h
  have hc := h.cap
  obtain ⟨u1, -, -, -⟩ := redBy_ok h.tri h.len
  exact xs_done hrt (xpw cZe (hr.mono (by omega)) (redBy w T vec) (xa_cons (xpw cLs hr (T, vec, w, f) (xa_cons (v 0) (xa_cons (v 1) xa_nil)) h fun _ _ p => p) xa_nil) (by show (redBy w T vec).length < 64; omega) fun _ _ p => p)
/-! row, rows -/
abbrev sRo : Stmt := top 67
abbrev nRo : List Str := ["_law_words_here", "_law_left", "_law_right", "_law_word"]
theorem scRo : FnScope nRo ["_law_words_here", "_law_left", "_law_right"] (defScope sRo) := ⟨rfl, rfl, rfl, by decide +kernel, rfl, by decide +kernel, by decide +kernel⟩
def rowK (ws : List Str) (a b : DD) : Row := ws.map fun k => gt a k - gt b k
abbrev spRo : Sp := spP (α := List Str × DD × DD) (fun q => q.1.length < 64) (fun q => [TL q.1, Dc q.2.1, Dc q.2.2]) (fun q => IL (rowK q.1 q.2.1 q.2.2))
theorem c_Ro (D : Dfn K mg "_law_row" sRo ["_law_words_here", "_law_left", "_law_right"]) : Cal P w K mg base 1 "_law_row" ["_law_words_here", "_law_left", "_law_right"] spRo := D.cal fun f fd F => by
  refine fn_ok F scRo (fun _ _ => rfl) ?_
  rintro ⟨ws, a, b⟩ hl cdv A outer s H E B D hB hr hrt hnx
  have hl : ws.length < 64 := hl
  refine xs_done hrt (XE.w (XLc.ls (xlcM (own := [("_law_word", 3)]) [3] (fun k : Str => [some (TL ws), some (Dc a), some (Dc b), some (Vl (.str k))]) ws (fun k => Vl (.str k)) (fun k => Vl (.int (gt a k - gt b k))) rfl scRo.nd (xi_list (v 0)) (blkOk_by (N := nRo) (sc := defScope sRo) (by decide +kernel)) (fun _ _ h => h) (len64 hl) (by decide)
    (fun k hk s H C cl fp => xg_name (i := 3) scRo.nd rfl (.inl rfl)) (fun k hk s H C cl fp => xe_op op_sub rv_i0 (xe_dget2 (un1 hr) (v 1) (v 3) xe_int) (xe_dget2 (un1 hr) (v 2) (v 3) xe_int)))) fun v H p => ?_)
  show (Ls ((ws.map _).map _)).p v H
  rw [List.map_map]
  exact p
abbrev sRs : Stmt := top 68
abbrev nRs : List Str := ["_law_words_here", "_law_pairs", "_law_left", "_law_right"]
theorem scRs : FnScope nRs ["_law_words_here", "_law_pairs"] (defScope sRs) := ⟨rfl, rfl, rfl, by decide +kernel, rfl, by decide +kernel, by decide +kernel⟩
abbrev Pd (q : DD × DD) : VP := Tp [Dc q.1, Dc q.2]
abbrev LPd (ps : List (DD × DD)) : VP := Ls (ps.map Pd)
def rowsK (ws : List Str) (ps : List (DD × DD)) : List Row := ps.map fun q => rowK ws q.1 q.2
abbrev spRs : Sp := spP (α := List Str × List (DD × DD)) (fun q => q.1.length < 64 ∧ q.2.length < 64) (fun q => [TL q.1, LPd q.2]) (fun q => ILL (rowsK q.1 q.2))
theorem c_Rs (D : Dfn K mg "_law_rows" sRs ["_law_words_here", "_law_pairs"]) (cRo : Cal P w K mg base 1 "_law_row" ["_law_words_here", "_law_left", "_law_right"] spRo) : Cal P w K mg base 2 "_law_rows" ["_law_words_here", "_law_pairs"] spRs := D.cal fun f fd F => by
  refine fn_ok F scRs (fun _ _ => rfl) ?_
  rintro ⟨ws, ps⟩ ⟨hl, hp⟩ cdv A outer s H E B D hB hr hrt hnx
  have hl : ws.length < 64 := hl
  have hp : ps.length < 64 := hp
  refine xs_done hrt (XE.w (XLc.ls (xlcM (own := [("_law_left", 2), ("_law_right", 3)]) [2, 3] (fun q : DD × DD => [some (TL ws), some (LPd ps), some (Dc q.1), some (Dc q.2)]) ps Pd (fun q => IL (rowK ws q.1 q.2)) rfl scRs.nd (xi_list (v 1)) (blkOk_by (N := nRs) (sc := defScope sRs) (by decide +kernel)) (fun _ _ h => h) (len64 hp) (by decide)
    (fun k hk s H C cl fp => xg_tup rfl (xgs_cons (xg_name (i := 2) scRs.nd rfl (.inl rfl)) (xgs_cons (xg_name (i := 3) scRs.nd rfl (.inl rfl)) xgs_nil))) (fun q hk s H C cl fp => xpw cRo hr (ws, q.1, q.2) (xa_cons (v 0) (xa_cons (v 2) (xa_cons (v 3) xa_nil))) hl fun _ _ p => p))) fun v H p => ?_)
  show (Ls ((ps.map _).map _)).p v H
  rw [List.map_map]
  exact p
end
end Y
/-! text SI -/
set_option Elab.async false
set_option linter.all false
set_option maxRecDepth 100000
namespace Y
open PySem PySem.Spec PyProof.Rows L2
theorem lst_nil {H0 H : Hp} (s : Sub [] H0 H) {a : Addr} {xs : List V} (h : H0 a = some (.lst xs)) : H a = some (.lst xs) := by
  rcases s.at_ a _ h with ⟨_, z⟩ | ⟨z, _⟩
  · exact z
  · exact absurd z List.not_mem_nil
/-- list + list -/
theorem rv_cat {Ps Qs : List VP} (h : Ps.length + Qs.length ≤ sizeLine) : RV [] rCat (Ls Ps) (Ls Qs) (Ls (Ps ++ Qs)) := fun x y H H0 s ⟨a, vs, ev, ha, hv⟩ ⟨b, ws, ew, hb, hw⟩ Q k => by
  refine ⟨a, b, vs, ws, ev, ew, lst_nil s ha, lst_nil s hb, by rw [hv.len, hw.len]; exact h, fun p hp => ?_⟩
  have g : Grow [] [] H0 H (upd H0 p (.lst (vs ++ ws))) (upd H p (.lst (vs ++ ws))) := .alloc s hp
  exact k _ _ _ g ⟨p, _, rfl, upd_same, (hv.app hw).mono g.pure⟩
section
variable {X : Cx} {L : List Addr} {a b e o i c : Expr} {es : List Expr} {G : Gam} {M M1 M2 M3 Ma Mb : Ml} {P P1 : VP} {pos pos' apos cpos : Pos} {q : Addr} {Ps Qs : List VP}
/-- o.append(e), o a cell -/
theorem xe_app (ho : XE X L o G M (Rf q) M1) (he : XE X L e G M1 P (Ma ++ (q, CLs Ps) :: Mb)) (hM1 : ∃ C, (q, C) ∈ M1 ∧ ∀ o H, C.p o H → ∃ vs, o = .lst vs) (hz : Ps.length < sizeLine)
    (hbase : attributeBase o "append" X.env (eval o X.env) = eval o X.env := by rfl)
    (hfew : ((backTo cpos (starEach [e] X.env)).all (fun x => !x.1) && (backToKw cpos (keywordEach [] X.env)).all (fun x => x.1.isSome)
      && decide ([e].length + ([] : List Keyword).length + (if ([] : List Keyword).isEmpty then 0 else 1) < 30)) = true := by rfl)
    (hline : (apos.endLine == cpos.line) = true := by rfl) (hs : starEach [e] X.env = (false, eval e X.env) :: starEach [] X.env := by rfl) (hplain : (backTo cpos (starEach [] X.env)).any (·.1) = false := by rfl) : XE X L (.Call (.Attribute o "append" apos) [e] [] cpos) G M (Vl .non) (Ma ++ (q, CLs (Ps ++ [P])) :: Mb) := by
  have ead : ads (Ma ++ (q, CLs (Ps ++ [P])) :: Mb) = ads (Ma ++ (q, CLs Ps) :: Mb) := by simp [ads]
  refine ⟨ead.trans (he.ad.trans ho.ad), fun σ H H0 s l m Q k pins sh I => ?_⟩
  refine (pe_bm PySem.F.plainAttrs_list PySem.F.slot_list_append PySem.F.type_list_append mt_append pW pWa hbase hfew hline hs hplain).run pins sh σ H Q I ?_
  refine ho.then_ s l m fun v H1 H01 g1 s1 l1 m1 ev => ?_
  have ev : v = .ref q := ev
  subst ev
  refine ⟨?_, (xa_cons he xa_nil hs).then_ s1 l1 m1 fun vs H2 H02 g2 s2 l2 m2 p2 => ?_⟩
  · obtain ⟨C, hq, hC⟩ := hM1
    obtain ⟨_, ob, h2, h3⟩ := m1.2 _ hq
    obtain ⟨ys, rfl⟩ := hC _ _ h3
    have h2 : H1 q = some (.lst ys) := h2
    exact .inl ⟨rfl, ys, SqL.of h2⟩
  · match vs, p2 with
    | [y], p2 =>
      have py : P.p y H02 := p2.1
      obtain ⟨h1, ob, h2, ys, rfl, hy⟩ := m2.at2
      refine ⟨q, ys, y, rfl, rfl, h2, by rw [hy.len]; exact hz, ?_⟩
      have m3 := m2.writeAt (C' := CLs (Ps ++ [P])) (o := .lst (ys ++ [y])) ⟨_, rfl, hy.app (AllP.one py)⟩
      have gA : Grow L (ads M) H0 H H02 H2 := g1.tr (by rw [← ho.ad]; exact g2)
      refine k .non _ H02 (gA.write h1 (.inl ?_)) m3 rfl
      rw [← ho.ad, ← he.ad]
      simp [ads]
/-- o.extend(e), o a cell, e a list -/
theorem xe_ext (ho : XE X [] o G M (Rf q) M1) (he : XE X [] e G M1 (Ls Qs) (Ma ++ (q, CLs Ps) :: Mb)) (hM1 : ∃ C, (q, C) ∈ M1 ∧ ∀ o H, C.p o H → ∃ vs, o = .lst vs) (hz : Ps.length + Qs.length ≤ sizeLine)
    (hbase : attributeBase o "extend" X.env (eval o X.env) = eval o X.env := by rfl)
    (hfew : ((backTo cpos (starEach [e] X.env)).all (fun x => !x.1) && (backToKw cpos (keywordEach [] X.env)).all (fun x => x.1.isSome)
      && decide ([e].length + ([] : List Keyword).length + (if ([] : List Keyword).isEmpty then 0 else 1) < 30)) = true := by rfl)
    (hline : (apos.endLine == cpos.line) = true := by rfl) (hs : starEach [e] X.env = (false, eval e X.env) :: starEach [] X.env := by rfl) (hplain : (backTo cpos (starEach [] X.env)).any (·.1) = false := by rfl) : XE X [] (.Call (.Attribute o "extend" apos) [e] [] cpos) G M (Vl .non) (Ma ++ (q, CLs (Ps ++ Qs)) :: Mb) := by
  have ead : ads (Ma ++ (q, CLs (Ps ++ Qs)) :: Mb) = ads (Ma ++ (q, CLs Ps) :: Mb) := by simp [ads]
  refine ⟨ead.trans (he.ad.trans ho.ad), fun σ H H0 s l m Q k pins sh I => ?_⟩
  refine (pe_bm PySem.F.plainAttrs_list PySem.F.slot_list_extend PySem.F.type_list_extend mt_extend pW pWa hbase hfew hline hs hplain).run pins sh σ H Q I ?_
  refine ho.then_ s l m fun v H1 H01 g1 s1 l1 m1 ev => ?_
  have ev : v = .ref q := ev
  subst ev
  refine ⟨?_, (xa_cons he xa_nil hs).then_ s1 l1 m1 fun vs H2 H02 g2 s2 l2 m2 p2 => ?_⟩
  · obtain ⟨C, hq, hC⟩ := hM1
    obtain ⟨_, ob, h2, h3⟩ := m1.2 _ hq
    obtain ⟨ys, rfl⟩ := hC _ _ h3
    have h2 : H1 q = some (.lst ys) := h2
    exact .inl ⟨rfl, ys, SqL.of h2⟩
  · match vs, p2 with
    | [y], p2 =>
      obtain ⟨b, zs, ey, hb, hzs⟩ : (Ls Qs).p y H02 := p2.1
      obtain ⟨h1, ob, h2, ys, rfl, hy⟩ := m2.at2
      refine ⟨q, b, ys, zs, rfl, by rw [ey], h2, lst_nil s2 hb, by rw [hy.len, hzs.len]; exact hz, ?_⟩
      have m3 := m2.writeAt (C' := CLs (Ps ++ Qs)) (o := .lst (ys ++ zs)) ⟨_, rfl, hy.app hzs⟩
      have gA : Grow [] (ads M) H0 H H02 H2 := g1.tr (by rw [← ho.ad]; exact g2)
      refine k .non _ H02 (gA.write h1 (.inl ?_)) m3 rfl
      rw [← ho.ad, ← he.ad]
      simp [ads]
/-- a cell's list stays from here on -/
theorem xs_shut {sts : List Stmt} {B : Bs} {D : Ends} {G' : Gam} (hB : q ∉ B.A) (hG : ∀ (σ : St) H0 vs, SL G σ H0 → H0 q = none → AllP H0 vs Ps → SL G' σ (upd H0 q (.lst vs))) (h : XS X [] sts B G' M D) : XS X [] sts B G (M ++ [(q, CLs Ps)]) D := ⟨fun σ H ⟨H0, g, l, m, fr⟩ => by
  have hq : B.h q = none := by
    rcases fr q (by simp [ads]) with z | z
    · exact absurd z hB
    · exact z
  obtain ⟨h1, o, h2, vs, h3, h4⟩ := m.2 (q, CLs Ps) (List.mem_append_right _ (.head _))
  have h3 : o = .lst vs := h3
  have h2 : H q = some o := h2
  have h1 : H0 q = none := h1
  subst h3
  obtain ⟨o', ho', hH, g2, m2, sm⟩ := m.shut g hq
  have eo : o' = .lst vs := by
    rw [h2] at hH
    exact (Option.some.inj hH).symm
  subst eo
  exact h.run σ H ⟨_, g2, hG σ H0 vs l h1 h4, m2, fun b hb => fr b (by rw [ads_app]; exact List.mem_append_left _ hb)⟩⟩
theorem sl_shut {σ : St} {H0 : Hp} {vs : List V} (l : SL G σ H0) (hq : H0 q = none) (i : Nat) (hi : G[i]? = some (some (Rf q))) (hp : P.p (.ref q) (upd H0 q (.lst vs))) : SL (G.set i (some P)) σ (upd H0 q (.lst vs)) := by
  have sm : Same H0 (upd H0 q (.lst vs)) := fun b u e => by
    rw [upd_ne (ne_of_none e hq)]
    exact e
  obtain ⟨v, e, p⟩ := l.2 i _ hi
  have p : v = .ref q := p
  subst p
  have q1 := SL.set (i := i) (v := .ref q) (P := P) (l.mono sm) hp
  have eq : σ.set i (some (.ref q)) = σ := by
    apply List.ext_getElem?
    intro j
    rw [List.getElem?_set]
    split
    · rename_i ej
      subst ej
      split
      · exact e.symm
      · rename_i hl
        have : σ[i]? = none := List.getElem?_eq_none_iff.mpr (by omega)
        rw [this] at e
        cases e
    · rfl
  rw [eq] at q1
  exact q1
end
end Y
/-! text Zi -/
set_option Elab.async false
set_option linter.all false
set_option maxRecDepth 100000
namespace Y
open PySem PySem.Spec PyProof.Rows L2
/-! ### the class Load -/
structure LdF (K : PySem.W.Frag) (C : Addr) : Prop where
  ik : InK K C
  na : NoAttr K C "own_counts"
  sf : PySem.W.selfFirst K C = true
  s1 : PySem.W.subIn K (.type "int") (.ref C) = some false
  s2 : PySem.W.subIn K (.ref C) (.type "int") = some false
  m1 : ∃ fo, PySem.W.findIn K (.type "int") (PySem.dunder (Operator.info .Mult).2) = some fo
  m2 : ∃ ro, PySem.W.findIn K (.type "int") (dunderR (Operator.info .Mult).2) = some ro
abbrev LF (d : DD) : Fps := [("own_counts", Dc d)]
abbrev Ld (C : Addr) (d : DD) : VP := Ins C (LF d)
theorem ld_isI {C : Addr} {d : DD} : IsI C (Ld C d) := ins_isI
section
variable {X : Cx} {L : List Addr} {o : Expr} {G : Gam} {M M1 : Ml} {pos : Pos} {C : Addr} {d : DD} {B : Bs} {D : Ends} {σ : St} {H : Hp} {Mo : Ml}
theorem ld_ct (K : LdF X.K C) (ho : XE X L o G M (Ld C d) M1) (hb : attributeBase o "own_counts" X.env (eval o X.env) = eval o X.env := by rfl) : XE X L (.Attribute o "own_counts" pos) G M (Dc d) M1 := xe_fldI ho rfl K.ik.cl K.na hb
theorem end_non (hrt : ∀ v H, rtA L B (Vl .non) Mo v H → D.rt v H) (hnx : ∀ (σ : St) H, D.rt .non H → D.nx σ H) (h : stA L B G Mo σ H) : D.nx σ H := by
  obtain ⟨H0, g, l, m, _⟩ := h
  exact hnx σ H (hrt .non H ⟨H0, g, rfl, m⟩)
end
abbrev sLI : Stmt := meth 36 0
theorem scLI : FnScope ["self", "known", "counts"] ["self", "known", "counts"] (defScope sLI) := ⟨rfl, rfl, rfl, by decide +kernel, rfl, by decide +kernel, by decide +kernel⟩
theorem bindLI (kV doc pm : Value) (an : Option Addr) (cdv ct : Value) : ∀ us rest : List Value, us.length = (["self"] : List Str).length → bindArgs (PySem.W.fnOf "__init__" "Load.__init__" (defArgs sLI) (defBody sLI) (defScope sLI) .none kV doc pm an cdv ct) ⟨us ++ rest, []⟩ =
    (newTuple rest >>= fun t => (alloc ({ cls := .type "dict", data := .dict #[] } : Obj) : Sem Addr) >>= fun d => pure ((["self"] : List Str).zip us ++ [(("known" : Str), t), (("counts" : Str), Value.ref d)]))
  | [a], [], _ => rfl
  | [a], r :: rs, _ => rfl
section
variable {P : Program} {w : World} {K : PySem.W.Frag} {mg : Str → Option Value} {base : Heap} {C : Addr}
def knd : List DD → DD → DD
  | [], e => nz e
  | d :: _, _ => d
abbrev spLI (C : Addr) : Sp := spStarKw (spI (α := List DD × DD) C (fun q => q.1.length ≤ 1 ∧ (q.1 = [] → q.2.length < 64 ∧ ∀ k ∈ ks q.2, Wd k)) (fun q => [Tp (q.1.map Dc), Dc q.2]) (fun q => LF (knd q.1 q.2))) 1
theorem c_LI (D : IDfn K mg "Load" C "Load.__init__" sLI) (T : Bt mg) (Z : LdF K C) (cCH : Cal P w K mg base 2 "checked" ["counts"] spCH) : ICal P w K mg base 3 "Load" C (spLI C) := D.cal fun f fd F => by
  refine fnR_starkw (ps := ["self"]) F scLI bindLI ?_
  rintro ⟨⟨ds, e⟩, x, dx⟩ ⟨h1, h2⟩ cdv A outer s H E B D hB hr hrt hnx
  have h1 : ds.length ≤ 1 := h1
  have h2 : ds = [] → e.length < 64 ∧ ∀ k ∈ ks e, Wd k := h2
  refine xs_fldM (P := Dc (knd ds e)) ?_ (v 0) Z.ik.cl Z.na (by simp) (by simp) (xs_nil fun σ H h => end_non hrt hnx h)
  match ds, h1, h2 with
  | [], _, h2 =>
    obtain ⟨a, b⟩ := h2 rfl
    refine xe_if (xt_cmp (op_eqE hr.units0) rv_eqET (v 1) (xe_tup xa_nil (Nat.zero_le _)) (nomark _)) (fun _ => ?_) (fun ht => by cases ht) rfl
    exact xpw cCH hr e (xa_cons (v 2) xa_nil) ⟨a, b⟩ fun _ _ p => p
  | [d], _, _ =>
    refine xe_if (xt_cmp (op_eqE hr.units0) rv_eqET (v 1) (xe_tup xa_nil (Nat.zero_le _)) (nomark _)) (fun ht => by cases ht) (fun _ => ?_) rfl
    exact xe_ix ix_tup (fun _ _ => rfl) (rv_ixT (n := 0) (P := Dc d) rfl) (v 1) xe_int
  | _ :: _ :: _, h1, _ => exact absurd h1 (by simp)
/-! load_of -/
abbrev sLO : Stmt := top 37
theorem scLO : FnScope ["counts"] ["counts"] (defScope sLO) := ⟨rfl, rfl, rfl, by decide +kernel, rfl, by decide +kernel, by decide +kernel⟩
theorem sl1 {α : Type} {a : α} : [a].length ≤ sizeLine := by
  rw [sizeLine_eq]
  exact (by decide : 1 ≤ 16777216)
abbrev spLO (C : Addr) : Sp := spP (α := DD) (fun d => d.length < 64) (fun d => [Dc d]) (fun d => Ld C (nz d))
theorem c_LO (D : Dfn K mg "load_of" sLO ["counts"]) (cWZ : Cal P w K mg base 1 "without_zeros" ["counts"] spWZ) (cLI : ICal P w K mg base 3 "Load" C (spLI C)) : Cal P w K mg base 5 "load_of" ["counts"] (spLO C) := D.cal fun f fd F => by
  refine fn_ok F scLO (fun _ _ => rfl) ?_
  rintro d hd cdv A outer s H E B D hB hr hrt hnx
  refine xs_done hrt (xe_makeK cLI hr (xa_cons (P := Dc (nz d)) (xpw cWZ (hr.mono (by omega)) d (xa_cons (v 0) xa_nil) hd fun _ _ p => p) xa_nil) ([nz d], []) ⟨Nat.le_refl _, fun h => by cases h⟩ rfl sl1)
/-! __getitem__, __bool__, counts, kinds -/
abbrev sLG : Stmt := meth 36 9
theorem scLG : FnScope ["self", "kind"] ["self", "kind"] (defScope sLG) := ⟨rfl, rfl, rfl, by decide +kernel, rfl, by decide +kernel, by decide +kernel⟩
abbrev spLG (C : Addr) : Sp := spP (α := DD × Str) (fun _ => True) (fun q => [Ld C q.1, Vl (.str q.2)]) (fun q => Vl (.int (gt q.1 q.2)))
theorem c_LG (D : MDfn K C "__getitem__" "Load.__getitem__" sLG ["self", "kind"]) (Z : LdF K C) : MCal P w K mg base 1 C "__getitem__" ["self", "kind"] (spLG C) := D.cal fun f fd F => by
  refine fn_ok F scLG (fun _ _ => rfl) ?_
  rintro ⟨d, k⟩ - cdv A outer s H E B D hB hr hrt hnx
  exact xs_done hrt (xe_dget2 (un1 hr) (ld_ct Z (v 0)) (v 1) xe_int)
abbrev sLB : Stmt := meth 36 13
theorem scLB : FnScope ["self"] ["self"] (defScope sLB) := ⟨rfl, rfl, rfl, by decide +kernel, rfl, by decide +kernel, by decide +kernel⟩
abbrev spLB (C : Addr) : Sp := spP (α := DD) (fun _ => True) (fun q => [Ld C q]) (fun q => Vl (.bl (!q.isEmpty)))
theorem c_LB (D : MDfn K C "__bool__" "Load.__bool__" sLB ["self"]) (Z : LdF K C) (T : Bt mg) : MCal P w K mg base 1 C "__bool__" ["self"] (spLB C) := D.cal fun f fd F => by
  refine fn_ok F scLB (fun _ _ => rfl) ?_
  rintro d - cdv A outer s H E B D hB hr hrt hnx
  exact xs_done hrt (xe_callTy call_boolD rc_boolD (by rfl) T.bool bt_bool (xa_cons (ld_ct Z (v 0)) xa_nil))
abbrev sLC : Stmt := meth 36 5
theorem scLC : FnScope ["self"] ["self"] (defScope sLC) := ⟨rfl, rfl, rfl, by decide +kernel, rfl, by decide +kernel, by decide +kernel⟩
abbrev spLC (C : Addr) : Sp := spC (α := DD) (fun _ => True) (fun q => [Ld C q]) (fun q => CDc q)
theorem c_LC (D : PDfn K C "counts" "Load.counts" sLC) (Z : LdF K C) (T : Bt mg) : PCal P w K mg base 1 C "counts" (spLC C) := D.cal fun f fd F => by
  refine fn_okX F scLC (fun _ _ => rfl) ?_
  rintro d - cdv A outer s H E B D hB hr hrt hrq hnx
  exact xs_doneM (R := fun q => Rf q) (hrq) (xem_dict (ld_ct Z (v 0)) T.dict bt_dict) (fun _ _ => rfl) (fun _ _ h => h)
abbrev sLK : Stmt := meth 36 6
theorem scLK : FnScope ["self"] ["self"] (defScope sLK) := ⟨rfl, rfl, rfl, by decide +kernel, rfl, by decide +kernel, by decide +kernel⟩
abbrev spLK (C : Addr) : Sp := spP (α := DD) (fun _ => True) (fun q => [Ld C q]) (fun q => TT' (ks q))
theorem c_LK (D : PDfn K C "kinds" "Load.kinds" sLK) (Z : LdF K C) (T : Bt mg) : PCal P w K mg base 1 C "kinds" (spLK C) := D.cal fun f fd F => by
  refine fn_ok F scLK (fun _ _ => rfl) ?_
  rintro d - cdv A outer s H E B D hB hr hrt hnx
  exact xs_done hrt (xe_callTy (call_tupleD rfl) rc_tupleD (by rfl) T.tuple bt_tuple (xa_cons (ld_ct Z (v 0)) xa_nil))
end
end Y
/-! text Zj -/
set_option Elab.async false
set_option linter.all false
set_option maxRecDepth 100000
namespace Y
open PySem PySem.Spec PyProof.Rows L2
abbrev LdA (C a : Addr) (d : DD) : VP := Ins C [("own_counts", Dca a d)]
section
variable {X : Cx} {L : List Addr} {e o tg iter : Expr} {G : Gam} {M M1 M' Mw : Ml} {P : VP} {pos : Pos} {C : Addr} {d : DD} {i : Nat}
theorem ld_ex : ∀ v H, (Ld C d).p v H → (ExP (fun _ : Addr => True) fun a => LdA C a d).p v H := fun v H ⟨x, dx, vs, h1, h2, h3⟩ => by
  obtain ⟨u, rfl, a, hu, ha⟩ := all1 h3
  exact ⟨a, trivial, x, dx, [u], h1, h2, ⟨hu, ha⟩, trivial⟩
theorem xe_ldLock (h : G[i]? = some (some (Ld C d))) (ad : ads M' = ads M) (k : ∀ a, XE X [a] e (G.set i (some (LdA C a d))) M P M') : XE X [] e G M P M' := by
  have hlt : i < G.length := (List.getElem?_eq_some_iff.mp h).1
  refine xe_open h ld_ex ad fun a _ => xe_lock (d := a) (kvs := d) (fun σ H0 l => ?_) (by simp) (k a)
  obtain ⟨v, _, x, dx, vs, _, _, h3⟩ := l.2 i _ (List.getElem?_set_self hlt)
  obtain ⟨u, _, _, ha⟩ := all1 h3
  exact ha
theorem xe_dcLock (h : G[i]? = some (some (Dc d))) (ad : ads M' = ads M) (k : ∀ a, XE X [a] e (G.set i (some (Dca a d))) M P M') : XE X [] e G M P M' := by
  have hlt : i < G.length := (List.getElem?_eq_some_iff.mp h).1
  refine xe_open h dc_ex ad fun a _ => xe_lock (d := a) (kvs := d) (fun σ H0 l => ?_) (by simp) (k a)
  obtain ⟨v, _, _, ha⟩ := l.2 i _ (List.getElem?_set_self hlt)
  exact ha
theorem lda_ct {a : Addr} (K : LdF X.K C) (ho : XE X L o G M (LdA C a d) M1) (hb : attributeBase o "own_counts" X.env (eval o X.env) = eval o X.env := by rfl) : XE X L (.Attribute o "own_counts" pos) G M (Dca a d) M1 := xe_fldI ho rfl K.ik.cl K.na hb
theorem xe_dcM {α : Type} {kx vx : Expr} {scope : Scope} {own : List (Str × Nat)} (js : List Nat) (G2 : α → Gam) (xs : List α) (R : α → VP) (kf : α → Str) (vf : α → Int) (hc : X.calm = true) (hN : X.N.Nodup) (hi : XI X L tg iter G M (xs.map R) M1 Mw) (ok : BlkOk X.N X.env.scope scope own) (hw : ∀ H0 H, MO M1 H0 H → MO Mw H0 H)
    (hl : xs.length < sizeLine) (hj : ∀ j ∈ js, j ∈ own.map (·.2)) (hg : ∀ x ∈ xs, ∀ s H C cl fp, XG1 (bk X scope s H C cl fp) L tg js (R x) (wipeG G (own.map (·.2))) (G2 x))
    (hk : ∀ x ∈ xs, ∀ s H C cl fp, XE (bk X scope s H C cl fp) L kx (G2 x) M1 (Vl (.str (kf x))) M1) (hv : ∀ x ∈ xs, ∀ s H C cl fp, XE (bk X scope s H C cl fp) L vx (G2 x) M1 (Vl (.int (vf x))) M1)
    (hfs : ∀ x, foldedSetIterable iter X.env x = pure x := by intro _; rfl) : XE X L (.DictComp kx vx [⟨tg, iter, [], 0⟩] scope pos) G M (Dc (mk kf vf xs)) M1 := by
  have h := xe_dc (pos := pos) (ifs := []) js G2 xs R kf vf (fun _ => true) hc hN hi ok hw hl hj hg (fun _ _ _ _ _ _ _ => xts_nil) (fun x hx _ => hk x hx) (fun x hx _ => hv x hx) hfs
  rw [List.filter_eq_self.mpr (fun _ _ => rfl)] at h
  exact h
end
theorem mk_lt {α : Type} (kf : α → Str) (vf : α → Int) {xs : List α} {n : Nat} (h : xs.length < n) : (mk kf vf xs).length < n := Nat.lt_of_le_of_lt (mk_len _ _ _) h
section
variable {P : Program} {w : World} {K : PySem.W.Frag} {mg : Str → Option Value} {base : Heap} {C : Addr}
/-! negative -/
abbrev sLN : Stmt := meth 36 8
theorem scLN : FnScope ["self", "kind", "count"] ["self"] (defScope sLN) := ⟨rfl, rfl, rfl, by decide +kernel, rfl, by decide +kernel, by decide +kernel⟩
abbrev spLN (C : Addr) : Sp := spP (α := DD) (fun d => d.length < 64) (fun q => [Ld C q]) (fun q => Ld C (ng q))
theorem c_LN (D : PDfn K C "negative" "Load.negative" sLN) (Z : LdF K C) (cLO : Cal P w K mg base 5 "load_of" ["counts"] (spLO C)) : PCal P w K mg base 6 C "negative" (spLN C) := D.cal fun f fd F => by
  refine fn_ok F scLN (fun _ _ => rfl) ?_
  rintro d hd cdv A outer s H E B D hB hr hrt hnx
  have hd : d.length < 64 := hd
  refine xs_done hrt (xpw cLO hr (mk Prod.fst (fun q => -q.2) (d.filter fun q => decide (q.2 < 0))) (xa_cons (P := Dc (mk Prod.fst (fun q => -q.2) (d.filter fun q => decide (q.2 < 0)))) (xe_ldLock (i := 0) rfl rfl fun a => ?_) xa_nil) (mk_lt _ _ (Nat.lt_of_le_of_lt (List.length_filter_le ..) hd)) fun _ _ p => p)
  refine xe_dc (own := [("kind", 1), ("count", 2)]) [1, 2] (fun q : Str × Int => [some (LdA C a d), some (Vl (.str q.1)), some (Vl (.int q.2))]) d (fun q => Tp [Vl (.str q.1), Vl (.int q.2)]) Prod.fst (fun q => -q.2) (fun q => decide (q.2 < 0)) rfl scLN.nd (xi_items (lda_ct Z (v 0)) (.head _)) (blkOk_by (N := ["self", "kind", "count"]) (sc := defScope sLN) (by decide +kernel)) (fun _ _ h => h) (len64 hd) (by decide)
    (fun q hq s H C cl fp => xg_tup rfl (xgs_cons (xg_name (i := 1) scLN.nd rfl (.inl rfl)) (xgs_cons (xg_name (i := 2) scLN.nd rfl (.inl rfl)) xgs_nil))) (fun q hq s H C cl fp => xts_one (xt_cmp op_lt (rv_i0 (i := q.2) (j := 0)) (v 2) xe_int (nomark _))) (fun q hq _ s H C cl fp => v 1) (fun q hq _ s H C cl fp => xe_un un_neg rv_neg (v 2))
/-! + and - -/
abbrev sLA : Stmt := meth 36 18
theorem scLA : FnScope ["self", "other", "kind"] ["self", "other"] (defScope sLA) := ⟨rfl, rfl, rfl, by decide +kernel, rfl, by decide +kernel, by decide +kernel⟩
abbrev sLS : Stmt := meth 36 19
theorem scLS : FnScope ["self", "other", "kind"] ["self", "other"] (defScope sLS) := ⟨rfl, rfl, rfl, by decide +kernel, rfl, by decide +kernel, by decide +kernel⟩
abbrev spLP (C : Addr) (g : Int → Int → Int) : Sp := spP (α := DD × DD) (fun q => q.1.length + q.2.length < 64) (fun q => [Ld C q.1, Ld C q.2]) (fun q => Ld C (pl g q.1 q.2))
theorem len_kk {a b : DD} (h : a.length + b.length < 64) : (ks a ++ ks b).length < 64 := by
  rw [List.length_append, ks_len, ks_len]
  exact h
theorem c_LA (D : MDfn K C "__add__" "Load.__add__" sLA ["self", "other"]) (Z : LdF K C) (cLO : Cal P w K mg base 5 "load_of" ["counts"] (spLO C)) (cLG : MCal P w K mg base 1 C "__getitem__" ["self", "kind"] (spLG C)) : MCal P w K mg base 6 C "__add__" ["self", "other"] (spLP C (· + ·)) := D.cal fun f fd F => by
  refine fn_ok F scLA (fun _ _ => rfl) ?_
  rintro ⟨a, b⟩ hd cdv A outer s H E B D hB hr hrt hnx
  have hd : a.length + b.length < 64 := hd
  refine xs_done hrt (xpw cLO hr (mk (fun k => k) (fun k => gt a k + gt b k) (ks a ++ ks b)) (xa_cons (P := Dc (mk (fun k => k) (fun k => gt a k + gt b k) (ks a ++ ks b))) ?_ xa_nil) (mk_lt _ _ (len_kk hd)) fun _ _ p => p)
  refine xe_dcM (own := [("kind", 2)]) [2] (fun k => [some (Ld C a), some (Ld C b), some (Vl (.str k))]) (ks a ++ ks b) (fun k => Vl (.str k)) (fun k => k) (fun k => gt a k + gt b k) rfl scLA.nd ?_ (blkOk_by (N := ["self", "other", "kind"]) (sc := defScope sLA) (by decide +kernel)) (fun _ _ h => h) (len64 (len_kk hd)) (by decide)
    (fun q hq s H C cl fp => xg_name (i := 2) scLA.nd rfl (.inl rfl)) (fun q hq s H C cl fp => v 2) (fun q hq s H C' cl fp => xe_op op_add rv_i0 (xe_own cLG (hr.mono (by omega)) (v 0) (v 2) (a, q) trivial rfl ld_isI fun _ _ p => p) (xe_own cLG (hr.mono (by omega)) (v 1) (v 2) (b, q) trivial rfl ld_isI fun _ _ p => p))
  rw [List.map_append, show (ks b).map (fun k => Vl (.str k)) = (ks b).map (fun k => Vl (.str k)) ++ [] from (List.append_nil _).symm]
  refine xi_list (xe_lst (xa_starD (ld_ct Z (v 0)) (xa_starD (ld_ct Z (v 1)) xa_nil)) ?_)
  rw [List.append_nil, ← List.map_append, List.length_map]
  exact Nat.le_of_lt (len64 (len_kk hd))
theorem c_LS (D : MDfn K C "__sub__" "Load.__sub__" sLS ["self", "other"]) (Z : LdF K C) (cLO : Cal P w K mg base 5 "load_of" ["counts"] (spLO C)) (cLG : MCal P w K mg base 1 C "__getitem__" ["self", "kind"] (spLG C)) : MCal P w K mg base 6 C "__sub__" ["self", "other"] (spLP C (· - ·)) := D.cal fun f fd F => by
  refine fn_ok F scLS (fun _ _ => rfl) ?_
  rintro ⟨a, b⟩ hd cdv A outer s H E B D hB hr hrt hnx
  have hd : a.length + b.length < 64 := hd
  refine xs_done hrt (xpw cLO hr (mk (fun k => k) (fun k => gt a k - gt b k) (ks a ++ ks b)) (xa_cons (P := Dc (mk (fun k => k) (fun k => gt a k - gt b k) (ks a ++ ks b))) ?_ xa_nil) (mk_lt _ _ (len_kk hd)) fun _ _ p => p)
  refine xe_dcM (own := [("kind", 2)]) [2] (fun k => [some (Ld C a), some (Ld C b), some (Vl (.str k))]) (ks a ++ ks b) (fun k => Vl (.str k)) (fun k => k) (fun k => gt a k - gt b k) rfl scLS.nd ?_ (blkOk_by (N := ["self", "other", "kind"]) (sc := defScope sLS) (by decide +kernel)) (fun _ _ h => h) (len64 (len_kk hd)) (by decide)
    (fun q hq s H C cl fp => xg_name (i := 2) scLS.nd rfl (.inl rfl)) (fun q hq s H C cl fp => v 2) (fun q hq s H C' cl fp => xe_op op_sub rv_i0 (xe_own cLG (hr.mono (by omega)) (v 0) (v 2) (a, q) trivial rfl ld_isI fun _ _ p => p) (xe_own cLG (hr.mono (by omega)) (v 1) (v 2) (b, q) trivial rfl ld_isI fun _ _ p => p))
  rw [List.map_append, show (ks b).map (fun k => Vl (.str k)) = (ks b).map (fun k => Vl (.str k)) ++ [] from (List.append_nil _).symm]
  refine xi_list (xe_lst (xa_starD (ld_ct Z (v 0)) (xa_starD (ld_ct Z (v 1)) xa_nil)) ?_)
  rw [List.append_nil, ← List.map_append, List.length_map]
  exact Nat.le_of_lt (len64 (len_kk hd))
/-! * -/
abbrev sLM : Stmt := meth 36 20
theorem scLM : FnScope ["self", "number", "kind", "count"] ["self", "number"] (defScope sLM) := ⟨rfl, rfl, rfl, by decide +kernel, rfl, by decide +kernel, by decide +kernel⟩
abbrev spLM (C : Addr) : Sp := spP (α := DD × Int) (fun q => q.1.length < 64 ∧ ∀ p ∈ q.1, CMulW p.2 q.2) (fun q => [Ld C q.1, Vl (.int q.2)]) (fun q => Ld C (ti q.1 q.2))
theorem c_LM (D : MDfn K C "__mul__" "Load.__mul__" sLM ["self", "number"]) (Z : LdF K C) (cLO : Cal P w K mg base 5 "load_of" ["counts"] (spLO C)) : MCal P w K mg base 6 C "__mul__" ["self", "number"] (spLM C) := D.cal fun f fd F => by
  refine fn_ok F scLM (fun _ _ => rfl) ?_
  rintro ⟨d, n⟩ ⟨hd, hm⟩ cdv A outer s H E B D hB hr hrt hnx
  have hd : d.length < 64 := hd
  have hm : ∀ p ∈ d, CMulW p.2 n := hm
  refine xs_done hrt (xpw cLO hr (mk Prod.fst (fun q => q.2 * n) d) (xa_cons (P := Dc (mk Prod.fst (fun q => q.2 * n) d)) (xe_ldLock (i := 0) rfl rfl fun a => ?_) xa_nil) (mk_lt _ _ hd) fun _ _ p => p)
  refine xe_dcM (own := [("kind", 2), ("count", 3)]) [2, 3] (fun q : Str × Int => [some (LdA C a d), some (Vl (.int n)), some (Vl (.str q.1)), some (Vl (.int q.2))]) d (fun q => Tp [Vl (.str q.1), Vl (.int q.2)]) Prod.fst (fun q => q.2 * n) rfl scLM.nd (xi_items (lda_ct Z (v 0)) (.head _)) (blkOk_by (N := ["self", "number", "kind", "count"]) (sc := defScope sLM) (by decide +kernel)) (fun _ _ h => h) (len64 hd) (by decide)
    (fun q hq s H C cl fp => xg_tup rfl (xgs_cons (xg_name (i := 2) scLM.nd rfl (.inl rfl)) (xgs_cons (xg_name (i := 3) scLM.nd rfl (.inl rfl)) xgs_nil))) (fun q hq s H C cl fp => v 2) (fun q hq s H C cl fp => xe_op op_mulW (rv_i (hm q hq)) (v 3) (v 1))
abbrev sLR' : Stmt := meth 36 21
theorem scLR' : FnScope ["self", "number"] ["self", "number"] (defScope sLR') := ⟨rfl, rfl, rfl, by decide +kernel, rfl, by decide +kernel, by decide +kernel⟩
theorem c_LRm (D : MDfn K C "__rmul__" "Load.__rmul__" sLR' ["self", "number"]) (Z : LdF K C) (cLM : MCal P w K mg base 6 C "__mul__" ["self", "number"] (spLM C)) : MCal P w K mg base 7 C "__rmul__" ["self", "number"] (spLM C) := D.cal fun f fd F => by
  obtain ⟨g, fg, Fg, hmg, hbg, hfg⟩ := cLM.ex
  obtain ⟨fr, fdr, Fr, hmr, _, _⟩ := D.ex
  obtain ⟨fo, z1⟩ := Z.m1
  obtain ⟨ro, z2⟩ := Z.m2
  refine fn_ok F scLR' (fun _ _ => rfl) ?_
  rintro ⟨d, n⟩ hp cdv A outer s H E B D hB hr hrt hnx
  exact xs_done hrt (xe_op (op_ownI (C := C) hr Fg hbg hmg Z.sf hmr.at_ z1 z2 Z.s1) (rv_ownI (d, n) hp rfl ld_isI fun _ _ p => p) (v 0) (v 1))
/-! <=, == -/
abbrev sLL : Stmt := meth 36 15
theorem scLL : FnScope ["self", "other", "kind"] ["self", "other"] (defScope sLL) := ⟨rfl, rfl, rfl, by decide +kernel, rfl, by decide +kernel, by decide +kernel⟩
abbrev spLL (C : Addr) : Sp := spP (α := DD × DD) (fun q => q.1.length + q.2.length < 64) (fun q => [Ld C q.1, Ld C q.2]) (fun q => Vl (.bl ((ks q.1 ++ ks q.2).all fun k => decide (gt q.1 k ≤ gt q.2 k))))
theorem c_LL (D : MDfn K C "__le__" "Load.__le__" sLL ["self", "other"]) (Z : LdF K C) (T : Bt mg) (cLG : MCal P w K mg base 1 C "__getitem__" ["self", "kind"] (spLG C)) : MCal P w K mg base 3 C "__le__" ["self", "other"] (spLL C) := D.cal fun f fd F => by
  refine fn_ok F scLL (fun _ _ => rfl) ?_
  rintro ⟨a, b⟩ hd cdv A outer s H E B D hB hr hrt hnx
  have hd : a.length + b.length < 64 := hd
  refine xs_done hrt (xe_callB (cr_all rfl) (rc_all (bs := (ks a ++ ks b).map fun k => decide (gt a k ≤ gt b k))) (by rfl) T.all bt_all (xa_cons (XE.w (XLc.ls (xlcM (own := [("kind", 2)]) [2] (fun k => [some (Ld C a), some (Ld C b), some (Vl (.str k))]) (ks a ++ ks b) (fun k => Vl (.str k)) (fun k => Vl (.bl (decide (gt a k ≤ gt b k)))) rfl scLL.nd ?_ (blkOk_by (N := ["self", "other", "kind"]) (sc := defScope sLL) (by decide +kernel)) (fun _ _ h => h) (len64 (len_kk hd)) (by decide)
    (fun q hq s H C cl fp => xg_name (i := 2) scLL.nd rfl (.inl rfl)) (fun q hq s H C' cl fp => xe_cmp op_le rv_i0 (xe_own cLG hr (v 0) (v 2) (a, q) trivial rfl ld_isI fun _ _ p => p) (xe_own cLG hr (v 1) (v 2) (b, q) trivial rfl ld_isI fun _ _ p => p) (nomark _)))) fun v H p => ?_) xa_nil)) fun v H p => ?_
  · rw [List.map_append, show (ks b).map (fun k => Vl (.str k)) = (ks b).map (fun k => Vl (.str k)) ++ [] from (List.append_nil _).symm]
    refine xi_list (xe_lst (xa_starD (ld_ct Z (Y.v 0)) (xa_starD (ld_ct Z (Y.v 1)) xa_nil)) ?_)
    rw [List.append_nil, ← List.map_append, List.length_map]
    exact Nat.le_of_lt (len64 (len_kk hd))
  · rw [List.map_map]
    exact p
  · rw [List.all_map] at p
    exact p
abbrev sLQ : Stmt := meth 36 14
theorem scLQ : FnScope ["self", "other"] ["self", "other"] (defScope sLQ) := ⟨rfl, rfl, rfl, by decide +kernel, rfl, by decide +kernel, by decide +kernel⟩
abbrev spLQ (C : Addr) : Sp := spP (α := DD × DD) (fun q => q.1.length = q.2.length ∧ ∀ p ∈ q.1, gv q.2 p.1 = some p.2) (fun q => [Ld C q.1, Ld C q.2]) (fun q => Vl (.bl true))
theorem c_LQ (D : MDfn K C "__eq__" "Load.__eq__" sLQ ["self", "other"]) (Z : LdF K C) (T : Bt mg) (hL : mg "Load" = some (.ref C)) : MCal P w K mg base 1 C "__eq__" ["self", "other"] (spLQ C) := D.cal fun f fd F => by
  refine fn_ok F scLQ (fun _ _ => rfl) ?_
  rintro ⟨a, b⟩ ⟨h1, h2⟩ cdv A outer s H E B D hB hr hrt hnx
  have h1 : a.length = b.length := h1
  have h2 : ∀ p ∈ a, gv b p.1 = some p.2 := h2
  exact xs_done hrt (xe_and (xe_callB call_isi (rc_isi (.own C) (ty_ins Z.ik) kit_same) (by rfl) T.isinstance bt_isi (xa_cons (v 1) (xa_cons (xe_gl hL rfl) xa_nil))) fun _ => xe_one (xe_cmp (op_eq_dictA hr.units0) (rv_eqDA h1 h2 rfl) (ld_ct Z (v 0)) (ld_ct Z (v 1)) (nomark _)))
end
end Y
/-! text Zy -/
set_option Elab.async false
set_option linter.all false
set_option maxRecDepth 100000
namespace Y
open PySem PySem.Spec PyProof.Rows L2 Mt
section
variable {P : Program} {w : World} {K : PySem.W.Frag} {mg : Str → Option Value} {base : Heap}
theorem gmap {α : Type} {R : α → VP} {xs : List α} {i : Nat} {P : VP} (h : (xs.map R)[i]? = some P) : ∃ r, xs[i]? = some r ∧ P = R r := by
  rw [List.getElem?_map] at h
  cases e : xs[i]? with
  | none =>
    rw [e] at h
    cases h
  | some r =>
    rw [e] at h
    cases h
    exact ⟨r, rfl, rfl⟩
/-! is_int, sides, used -/
abbrev sIn : Stmt := top 73
theorem scIn : FnScope ["_law_thing"] ["_law_thing"] (defScope sIn) := ⟨rfl, rfl, rfl, by decide +kernel, rfl, by decide +kernel, by decide +kernel⟩
theorem c_In (D : Dfn K mg "_law_is_int" sIn ["_law_thing"]) (T : Bt mg) : Cal P w K mg base 1 "_law_is_int" ["_law_thing"] spII := D.cal fun f fd F => by
  refine fn_ok F scIn (fun _ _ => rfl) ?_
  rintro i - cdv A outer s H E B D hB hr hrt hnx
  refine xs_done hrt (xe_and (xe_callB call_isi (rc_isi (.ty "int") ty_int kit_same) (by rfl) T.isinstance bt_isi (xa_cons (v 0) (xa_cons (xe_bt T.int bt_int rfl) xa_nil))) fun _ => xe_one (xe_not (xe_callB call_isi (rc_isi (.ty "bool") ty_int kit_ib) (by rfl) T.isinstance bt_isi (xa_cons (v 0) (xa_cons (xe_bt T.bool bt_bool rfl) xa_nil)))))
abbrev sSs : Stmt := top 66
abbrev nSs : List Str := ["_law_pairs", "_law_pair_here"]
theorem scSs : FnScope nSs ["_law_pairs"] (defScope sSs) := ⟨rfl, rfl, rfl, by decide +kernel, rfl, by decide +kernel, by decide +kernel⟩
abbrev sds (ps : List (DD × DD)) : List DD := ps.map (·.1) ++ ps.map (·.2)
abbrev spSs : Sp := spP (α := List (DD × DD)) (fun ps => ps.length < 64) (fun ps => [LPd ps]) (fun ps => Ls ((sds ps).map Dc))
theorem c_Ss (D : Dfn K mg "_law_sides" sSs ["_law_pairs"]) : Cal P w K mg base 1 "_law_sides" ["_law_pairs"] spSs := D.cal fun f fd F => by
  refine fn_ok F scSs (fun _ _ => rfl) ?_
  rintro ps hl cdv A outer s H E B D hB hr hrt hnx
  have hl : ps.length < 64 := hl
  refine xs_done hrt (XE.w (xe_op op_cat (rv_cat (Ps := ps.map fun q => Dc q.1) (Qs := ps.map fun q => Dc q.2) ?_) (XLc.ls (xlcM (own := [("_law_pair_here", 1)]) [1] (fun q : DD × DD => [some (LPd ps), some (Pd q)]) ps Pd (fun q => Dc q.1) rfl scSs.nd (xi_list (v 0)) (blkOk_by (N := nSs) (sc := defScope sSs) (by decide +kernel)) (fun _ _ h => h) (len64 hl) (by decide)
    (fun k hk s H C cl fp => xg_name (i := 1) scSs.nd rfl (.inl rfl)) (fun q hk s H C cl fp => xe_ix ix_tup (fun _ _ => rfl) (rv_ixT (n := 0) (P := Dc q.1) rfl) (v 1) xe_int)))
    (XLc.ls (xlcM (own := [("_law_pair_here", 1)]) [1] (fun q : DD × DD => [some (LPd ps), some (Pd q)]) ps Pd (fun q => Dc q.2) rfl scSs.nd (xi_list (v 0)) (blkOk_by (N := nSs) (sc := defScope sSs) (by decide +kernel)) (fun _ _ h => h) (len64 hl) (by decide)
    (fun k hk s H C cl fp => xg_name (i := 1) scSs.nd rfl (.inl rfl)) (fun q hk s H C cl fp => xe_ix ix_tup (fun _ _ => rfl) (rv_ixT (n := 1) (P := Dc q.2) rfl) (v 1) xe_int)))) fun v H p => ?_)
  · rw [List.length_map, List.length_map, sizeLine_eq]
    omega
  · show (Ls ((ps.map (·.1) ++ ps.map (·.2)).map Dc)).p v H
    rw [List.map_append, List.map_map, List.map_map]
    exact p
theorem xi_keysK {X : Cx} {L : List Addr} {tg e : Expr} {G : Gam} {M M1 : Ml} {d : Addr} {kvs : DD} (he : XE X L e G M (Dca d kvs) M1) (hL : d ∈ L) : XI X L tg e G M ((ks kvs).map fun k => Vl (.str k)) M1 [] := by
  have h := xi_keys (tg := tg) he hL
  have e : (kvs.map fun q => Vl (.str q.1)) = (ks kvs).map fun k => Vl (.str k) := by
    unfold ks
    rw [List.map_map]
    rfl
  rw [← e]
  exact h
abbrev sUd : Stmt := top 65
abbrev nUd : List Str := ["_law_pairs", "_law_found", "_law_side", "_law_word"]
theorem scUd : FnScope nUd ["_law_pairs"] (defScope sUd) := ⟨rfl, rfl, rfl, by decide +kernel, rfl, by decide +kernel, by decide +kernel⟩
def nzk (d : DD) : List Str := (ks d).filter fun k => gt d k != 0
def udl (ps : List (DD × DD)) : List Str := (sds ps).flatMap nzk
abbrev spUd : Sp := spP (α := List (DD × DD)) (fun ps => ps.length < 64 ∧ (∀ d ∈ sds ps, d.length < 64) ∧ (udl ps).length < 64) (fun ps => [LPd ps]) (fun ps => TL (srt (udl ps)))
theorem c_Ud (D : Dfn K mg "_law_used" sUd ["_law_pairs"]) (T : Bt mg) (cSs : Cal P w K mg base 1 "_law_sides" ["_law_pairs"] spSs) : Cal P w K mg base 2 "_law_used" ["_law_pairs"] spUd := D.cal fun f fd F => by
  refine fn_ok F scUd (fun _ _ => rfl) ?_
  rintro ps ⟨hl, hd64, hu⟩ cdv A outer s H E B D hB hr hrt hnx
  have hl : ps.length < 64 := hl
  have hu : (udl ps).length < 64 := hu
  have hd64 : ∀ d ∈ sds ps, d.length < 64 := hd64
  refine xs_setm (i := 1) (C := CLs []) (M1 := []) (xem_lst xa_nil (Nat.zero_le _)) scUd.nd rfl (.inl rfl) fun q => ?_
  refine xs_for (ι := Unit) PassesOwn.never rfl (xi_list (xpw cSs hr ps (xa_cons (v 0) xa_nil) hl fun _ _ p => p)) (fun i _ => True) (fun i _ => [some (LPd ps), some (Rf q), none, none]) (fun i _ => [(q, CLs (((sds ps).take i).flatMap fun d => (nzk d).map fun k => Vl (.str k)))]) ⟨(), trivial, (fun _ _ h => h), rfl, fun _ _ h => h⟩ (fun _ _ _ _ _ _ => MO.nil) ?_ ?_
  · rintro i - Q B' bl hQ -
    obtain ⟨d, hid, rfl⟩ := gmap hQ
    have hd := hd64 d (List.mem_of_getElem? hid)
    have et : ((sds ps).take (i + 1)).flatMap (fun d => (nzk d).map fun k => Vl (.str k)) = ((sds ps).take i).flatMap (fun d => (nzk d).map fun k => Vl (.str k)) ++ (nzk d).map fun k => Vl (.str k) := by
      rw [List.take_add_one, hid, List.flatMap_append]
      simp
    have hz : (((sds ps).take i).flatMap fun d => (nzk d).map fun k => Vl (.str k)).length + ((nzk d).map fun k => Vl (.str k)).length < 64 := by
      have e1 : (udl ps).length = (((sds ps).take i).flatMap nzk).length + (((sds ps).drop i).flatMap nzk).length := by
        unfold udl
        rw [← List.length_append, ← List.flatMap_append, List.take_append_drop]
      have e2 : (sds ps).drop i = d :: (sds ps).drop (i + 1) := by
        obtain ⟨hlt, he⟩ := List.getElem?_eq_some_iff.mp hid
        rw [List.drop_eq_getElem_cons hlt, he]
      have e3 : (((sds ps).take i).flatMap fun d => (nzk d).map fun k => Vl (.str k)).length = (((sds ps).take i).flatMap nzk).length := by
        rw [List.length_flatMap, List.length_flatMap]
        simp
      rw [e2, List.flatMap_cons, List.length_append] at e1
      rw [e3, List.length_map]
      omega
    refine ⟨[2], _, xg_name (i := 2) scUd.nd rfl (.inr rfl), ?_⟩
    refine xs_expr (P := Vl .non) (M1 := [(q, CLs (((sds ps).take (i + 1)).flatMap fun d => (nzk d).map fun k => Vl (.str k)))]) ?_ (xs_nil fun σ H h => ⟨(), trivial, h.unset 2⟩)
    rw [et]
    refine xe_ext (Ma := []) (Mb := []) (v 1) ?_ ⟨_, .head _, fun o H ⟨vs, e, _⟩ => ⟨vs, e⟩⟩ (by rw [sizeLine_eq]; omega)
    refine xe_dcLock (i := 2) rfl rfl fun a => ?_
    refine XLc.ls (xlcF (own := [("_law_word", 3)]) [3] (fun k : Str => [some (LPd ps), some (Rf q), some (Dca a d), some (Vl (.str k))]) (ks d) (fun k => Vl (.str k)) (fun k => Vl (.str k)) (fun k => gt d k != 0) rfl scUd.nd (xi_keysK (v 2) (.head _)) (blkOk_by (N := nUd) (sc := defScope sUd) (by decide +kernel)) (fun _ _ _ => MO.nil) (len64 (by rw [ks_len]; exact hd)) (by decide)
      (fun k hk s H C cl fp => xg_name (i := 3) scUd.nd rfl (.inl rfl)) (fun k hk s H C cl fp => ?_) (fun k hk _ s H C cl fp => v 3))
    obtain ⟨z, hz⟩ : ∃ z, gv d k = some z := by
      have := gv_mem.mp hk
      cases e : gv d k with
      | none => exact absurd e this
      | some z => exact ⟨z, rfl⟩
    have eg : gt d k = z := by unfold gt; rw [hz]; rfl
    rw [eg]
    exact xts_one (xt_cmp op_ne rv_neI (xe_dget (un1 hr) (XE.w (v 2) dca_dc) (v 3) hz) xe_int (nomark _))
  · rintro - -
    rw [List.length_map, List.take_length]
    refine xs_shut (M := []) (G' := [some (LPd ps), some (TL (udl ps)), none, none]) (by rw [hB]; exact List.not_mem_nil) (fun σ H0 vs l h1 h2 => ?_) ?_
    · refine sl_shut (P := TL (udl ps)) l h1 1 rfl ⟨q, vs, rfl, upd_same, ?_⟩
      have sm : Same H0 (upd H0 q (.lst vs)) := fun b u e => by
        rw [upd_ne (ne_of_none e h1)]
        exact e
      have h3 := h2.mono sm
      have e : ((sds ps).flatMap fun d => (nzk d).map fun k => Vl (.str k)) = (udl ps).map fun k => Vl (.str k) := by
        unfold udl
        rw [List.map_flatMap]
      rw [← e]
      exact h3
    · exact xs_done hrt (xe_sortset (ks := udl ps) (v 1) (fun v H p => .inl p) hu T.sorted T.set)
end
end Y
/-! text Zz -/
set_option Elab.async false
set_option linter.all false
set_option maxRecDepth 100000
namespace Y
open PySem PySem.Spec PyProof.Rows L2 Mt
section
variable {X : Cx} {G : Gam} {pos : Pos} {a : Expr} {p1 p2 p3 p4 p5 : Pos} {n1 n2 n3 n4 n5 : Nat}
/-- {k1: a, k2: 0, k3: 0} -/
theorem xem_pen {xs : List Int} (hz : xs.length ≤ 63) (ha : XE X [] a G [] (IL xs) []) : XEm X [] (.Dict [some (.Constant (.str kCells) n1 p1), some (.Constant (.str kBegun) n2 p2), some (.Constant (.str kLeft) n3 p3)] [a, .Constant (.int 0) n4 p4, .Constant (.int 0) n5 p5] pos) G [] (CPen 0) [] := by
  refine ⟨rfl, fun σ H H0 s l m Q k pins sh I => (pe_disp (pps_cons pe_str pW (pps_cons pe_str pe_int (pps_cons pe_str pe_int pps_nil))) rfl rfl (by simp) (by simp)).run pins sh σ H Q I fun p hp => ?_⟩
  have h0 : H0 p = none := s.no hp
  have g0 : Grow [] [] H0 H H0 (upd H p (.dK [])) := (Grow.refl s).write h0 (.inr hp)
  have m0 : MO [(p, CDx [] [])] H0 (upd H p (.dK [])) := ⟨by simp [ads], fun c hc => by
    have hc := List.mem_singleton.mp hc
    subst hc
    exact ⟨h0, _, upd_same, rfl, fun _ h => by cases h⟩⟩
  refine (ha.beside (M := [(p, CDx [] [])])).then_ g0.sub l m0 fun y H2 H02 g2 s2 l2 m2 py => ?_
  obtain ⟨k1, o, k2, k3, -⟩ := m2.2 _ (.head _)
  have k1 : H02 p = none := k1
  have k2 : H2 p = some o := k2
  subst k3
  refine ⟨k2, [(.inr kCells, y), (.inr kBegun, .int 0), (.inr kLeft, .int 0)], rfl, by simp, ?_⟩
  obtain ⟨b, vs, rfl, hb, hv⟩ := py
  have e : mergeK [] [((.inr kCells : Key), V.ref b), (.inr kBegun, .int 0), (.inr kLeft, .int 0)] = penK b 0 0 := by
    simp [mergeK, putK, penK, kn1, kn2, kn3]
  rw [e]
  have gA : Grow [] [] H0 H H02 H2 := g0.trans g2 fun z hz => .inr (by rw [List.mem_singleton.mp hz]; exact hp)
  refine k p _ H02 (gA.write k1 (.inr hp)) ⟨by simp [ads], fun c hc => ?_⟩ hp
  have hc := List.mem_singleton.mp hc
  subst hc
  refine ⟨k1, _, upd_same, (b, xs, 0, 0), ⟨hz, Nat.le_refl _, Int.le_refl _⟩, rfl, fun x hx => ?_⟩
  have hx := List.mem_singleton.mp hx
  subst hx
  exact ⟨b, vs, rfl, hb, hv⟩
end
/-- the law's own list of ints: it stands frozen -/
def Fz (xs : List Int) : VP := ⟨fun v H => ∃ a o, v = .ref a ∧ H a = some (.frz o (.lst (xs.map V.int))), fun _ _ _ e ⟨a, o, h1, h2⟩ => ⟨a, o, h1, e _ _ h2⟩⟩
theorem sub_frz {L : List Addr} {H0 H : Hp} (s : Sub L H0 H) {a : Addr} {o : Obj} {xs : List V} (h : H0 a = some (.frz o (.lst xs))) : H a = some (.frz o (.lst xs)) := by
  rcases s.at_ a _ h with ⟨_, z⟩ | ⟨_, _, _, z, _⟩
  · exact z
  · cases z
theorem all_il {H : Hp} : ∀ xs : List Int, AllP H (xs.map V.int) (xs.map fun i => Vl (.int i))
  | [] => trivial
  | _ :: r => ⟨rfl, all_il r⟩
theorem rc_lenF {L : List Addr} {K : PySem.W.Frag} {xs : List Int} : RC L (fun xs H Q => ∃ p ys, xs = [.ref p] ∧ (SqL K H p ys ∨ SqT K H p ys) ∧ Q (.int ys.length) H) [Fz xs] (Vl (.int (xs.length : Int))) := rc_of fun ys H H0 s hv Q k => by
  obtain ⟨v, rfl, a, o, rfl, ha⟩ := all1 hv
  exact ⟨a, _, rfl, .inl (.inl (.inr ⟨o, sub_frz s ha⟩)), by rw [List.length_map]; exact k _ rfl⟩
theorem xe_toF {X : Cx} {L : List Addr} {e hi : Expr} {G : Gam} {M M1 M2 : Ml} {pos p2 : Pos} {xs : List Int} {n : Nat} (he : XE X L e G M (Fz xs) M1) (hl : XE X L hi G M1 (Vl (.int (n : Int))) M2) : XE X L (.Subscript e (.Slice none (some hi) none p2) pos) G M (Ls ((xs.map fun i => Vl (.int i)).take n)) M2 :=
  .of (pe_slice sl_list pW po_none (po_some pW)) (hl.ad.trans he.ad) fun σ H H0 s l m Q k => he.then_ s l m fun x H1 H01 g1 s1 l1 m1 ⟨a, o, ev, ha⟩ => hl.then_ s1 l1 m1 fun y H2 H02 g2 s2 l2 m2 ey => by
    refine ⟨n, ey, a, _, ev, .inl (.inr ⟨o, sub_frz s2 (g2.pure _ _ ha)⟩), fun p hp => ?_⟩
    rw [cut_take]
    have g : Grow L [] H02 H2 (upd H02 p (.lst ((xs.map V.int).take n))) (upd H2 p (.lst ((xs.map V.int).take n))) := .alloc s2 hp
    exact k _ _ _ ((g1.tr (by rw [← he.ad]; exact g2)).tr g.nil) (m2.grow0 g) ⟨p, _, rfl, upd_same, (all_il xs).take n⟩
section
variable {P : Program} {w : World} {K : PySem.W.Frag} {mg : Str → Option Value} {base : Heap}
abbrev sPn : Stmt := top 56
theorem scPn : FnScope ["_law_script"] ["_law_script"] (defScope sPn) := ⟨rfl, rfl, rfl, by decide +kernel, rfl, by decide +kernel, by decide +kernel⟩
abbrev spPn : Sp := spC (α := List Int) (fun xs => xs.length ≤ 63) (fun xs => [Fz xs]) (fun _ => CPen 0)
theorem c_Pn (D : Dfn K mg "_law_pen" sPn ["_law_script"]) (T : Bt mg) : Cal P w K mg base 1 "_law_pen" ["_law_script"] spPn := D.cal fun f fd F => by
  refine fn_okX F scPn (fun _ _ => rfl) ?_
  rintro xs hl cdv A outer s H E B D hB hr hrt hrq hnx
  have hl : xs.length ≤ 63 := hl
  refine xs_doneM (R := fun q => Rf q) hrq (xem_pen (xs := xs) hl ?_) (fun _ _ => rfl) (fun _ _ h => h)
  refine xe_callTy call_list_of rc_listL (by rfl) T.list PyProof.Rows.boot_list (xa_cons (XE.w (xe_toF (n := 63) (v 0) xe_int) fun v H p => ?_) xa_nil)
  rw [List.take_of_length_le (by rw [List.length_map]; exact hl)] at p
  exact p
end
end Y
/-! text SJ -/
set_option Elab.async false
set_option linter.all false
set_option maxRecDepth 100000
namespace Y
open PySem PySem.Spec PyProof.Rows L2 Mt
section
variable {X : Cx} {elt tg iter : Expr} {G : Gam} {q : Addr} {n : Nat}
/-- a map that draws: c draws at most for each item -/
theorem xlcP {α : Type} {scope : Scope} {own : List (Str × Nat)} (c : Nat) (js : List Nat) (G2 : α → Gam) (xs : List α) (R R' : α → VP) (hc : X.calm = true) (hN : X.N.Nodup) (hi : XI X [] tg iter G [(q, CPen n)] (xs.map R) [(q, CPen n)] []) (ok : BlkOk X.N X.env.scope scope own)
    (hl : xs.length < sizeLine) (hj : ∀ j ∈ js, j ∈ own.map (·.2)) (hg : ∀ x ∈ xs, ∀ s H C cl fp, XG1 (bk X scope s H C cl fp) [] tg js (R x) (wipeG G (own.map (·.2))) (G2 x))
    (he : ∀ i x, i < xs.length → x ∈ xs → ∀ s H C cl fp, XE (bk X scope s H C cl fp) [] elt (G2 x) [(q, CPen (n + c * i))] (R' x) [(q, CPen (n + c * (i + 1)))])
    (hfs : ∀ x, foldedSetIterable iter X.env x = pure x := by intro _; rfl) : XLc X [] elt tg iter [] scope G [(q, CPen n)] (CLs (xs.map R')) [(q, CPen (n + c * xs.length))] := by
  refine xlc (ι := Unit) hc hN hi ok (fun _ _ => True) (fun i _ => [(q, CPen (n + c * i))]) (fun i _ => (xs.take i).map R') ⟨(), trivial, by simp, rfl, fun _ _ h => h⟩ (fun i _ hi _ => ⟨?_, rfl, fun _ _ _ => MO.nil⟩) (fun i _ P hP _ => ?_) (fun _ _ p H0 H m => ?_) rfl hfs
  · rw [List.length_map, List.length_take]
    omega
  · rw [List.getElem?_map] at hP
    cases e : xs[i]? with
    | none =>
      rw [e] at hP
      cases hP
    | some x =>
      rw [e] at hP
      have hP : R x = P := Option.some.inj hP
      subst hP
      have hx : x ∈ xs := List.mem_of_getElem? e
      have hlt := (List.getElem?_eq_some_iff.mp e).1
      refine ⟨js, G2 x, (· = true), [(q, CPen (n + c * i))], hj, hg x hx, fun _ _ _ _ _ => xts_nil, fun _ => ⟨R' x, (), trivial, ?_, he i x hlt hx⟩, fun z => by cases z⟩
      rw [List.take_add_one, e, List.map_append]
      rfl
  · have hlen : ((List.map R xs).length) = xs.length := List.length_map ..
    rw [hlen, List.take_length] at m
    exact m
end
/-- a list of pairs, the second a choice: the choices named -/
theorem ls_choose {f : Int → Prop} {kk : List Str} : ∀ {vs : List V} {H : Hp}, AllP H vs (kk.map fun k => Tp [Vl (.str k), II f]) → ∃ zs : List Int, zs.length = kk.length ∧ (∀ z ∈ zs, f z) ∧ AllP H vs ((kk.zip zs).map fun u => Tp [Vl (.str u.1), Vl (.int u.2)]) := by
  induction kk with
  | nil => exact fun {vs H} h => ⟨[], rfl, (fun _ h => by cases h), h⟩
  | cons k kk ih =>
    intro vs H h
    match vs, h with
    | v :: vs, ⟨⟨a, us, e1, e2, e3⟩, h2⟩ =>
      match us, e3 with
      | [x, y], ⟨hx, ⟨z, fz, hy⟩, _⟩ =>
        obtain ⟨zs, i1, i2, i3⟩ := ih h2
        refine ⟨z :: zs, by rw [List.length_cons, List.length_cons, i1], fun u hu => ?_, ⟨a, [x, y], e1, e2, hx, hy, trivial⟩, i3⟩
        rcases List.mem_cons.mp hu with e | hu
        · rw [e]; exact fz
        · exact i2 u hu
end Y
/-! text ZA -/
set_option Elab.async false
set_option linter.all false
set_option maxRecDepth 100000
namespace Y
open PySem PySem.Spec PyProof.Rows L2 Mt
theorem put_mem {d : DD} {k : Str} {z : Int} {p : Str × Int} (h : p ∈ put d k z) : p ∈ d ∨ p = (k, z) := by
  unfold put at h
  split at h
  · obtain ⟨u, hu, e⟩ := List.mem_map.mp h
    split at e
    · rename_i ek
      exact .inr (by rw [← e, ek])
    · exact .inl (by rw [← e]; exact hu)
  · rcases List.mem_append.mp h with h | h
    · exact .inl h
    · exact .inr (List.mem_singleton.mp h)
theorem mk_mem {α : Type} (kf : α → Str) (vf : α → Int) {p : Str × Int} : ∀ (n : Nat) (xs : List α), xs.length = n → p ∈ mk kf vf xs → ∃ x ∈ xs, p = (kf x, vf x) := by
  intro n
  induction n with
  | zero =>
    intro xs hl h
    have : xs = [] := List.length_eq_zero_iff.mp hl
    subst this
    cases h
  | succ n ih =>
    intro xs hl h
    have hne : xs ≠ [] := fun e => by rw [e] at hl; cases hl
    have e := List.dropLast_concat_getLast hne
    rw [← e, mk_take] at h
    rcases put_mem h with h | h
    · obtain ⟨x, hx, q⟩ := ih xs.dropLast (by rw [List.length_dropLast]; omega) h
      exact ⟨x, (by rw [← e]; exact List.mem_append_left _ hx), q⟩
    · exact ⟨_, List.getLast_mem hne, h⟩
/-- a dict of drawn counts -/
structure Dn (N : Nat) (kk : List Str) (d : DD) : Prop where
  nd : (ks d).Nodup
  sub : ∀ k ∈ ks d, k ∈ kk
  bd : ∀ p ∈ d, 0 ≤ p.2 ∧ p.2 ≤ (N : Int)
  len : d.length ≤ kk.length
theorem mk_dn {N : Nat} {kk : List Str} {zs : List Int} (hl : zs.length = kk.length) (hz : ∀ z ∈ zs, 0 ≤ z ∧ z ≤ (N : Int)) : Dn N kk (mk (fun u : Str × Int => u.1) (fun u => u.2) (kk.zip zs)) := by
  refine ⟨mk_nodup _ _ _, fun k hk => ?_, fun p hp => ?_, Nat.le_trans (mk_len _ _ _) (by rw [List.length_zip]; omega)⟩
  · have := (mk_ks _ _ _ _).mp hk
    obtain ⟨u, hu, e⟩ := List.mem_map.mp this
    rw [← e]
    exact (List.of_mem_zip hu).1
  · obtain ⟨u, hu, e⟩ := mk_mem _ _ _ _ rfl hp
    rw [e]
    exact hz _ (List.of_mem_zip hu).2
/-- dict(pairs), the counts drawn -/
theorem rc_dictX {L : List Addr} {K : PySem.W.Frag} {N : Nat} {kk : List Str} : RC L (fun xs H Q => ∃ (a : Addr) (ps : List Addr) (kvs : List (Key × V)), xs = [.ref a] ∧ SqL K H a (ps.map V.ref) ∧ Paired (fun p kv => SqT K H p [kV kv.1, kv.2]) ps kvs ∧
    ∀ p, H p = none → Q (.ref p) (upd H p (.dK (mergeK [] kvs)))) [Ls (kk.map fun k => Tp [Vl (.str k), II fun z => 0 ≤ z ∧ z ≤ (N : Int)])] (ExP (Dn N kk) Dc) := fun ys H H0 s hv Q k => by
  obtain ⟨v, rfl, a, vs, rfl, ha, hvs⟩ := all1 hv
  obtain ⟨zs, z1, z2, z3⟩ := ls_choose hvs
  refine rc_dictP (fun u : Str × Int => u.1) (fun u => u.2) (kk.zip zs) [.ref a] H H0 s ⟨⟨a, vs, rfl, ha, z3⟩, trivial⟩ Q fun z H' H0' g p => k z H' H0' g ⟨_, mk_dn z1 z2, p⟩
section
variable {P : Program} {w : World} {K : PySem.W.Frag} {mg : Str → Option Value} {base : Heap}
abbrev sSk : Stmt := top 72
abbrev nSk : List Str := ["_law_pen_here", "_law_words_here", "_law_word"]
theorem scSk : FnScope nSk ["_law_pen_here", "_law_words_here"] (defScope sSk) := ⟨rfl, rfl, rfl, by decide +kernel, rfl, by decide +kernel, by decide +kernel⟩
abbrev spSk : Sp := spG (α := Addr × Nat × List Str) (fun y => y.2.1 < 700000 ∧ y.2.2.length ≤ 8) (fun y => [Rf y.1, TL y.2.2]) (fun y => [(y.1, CPen y.2.1)]) (fun y => ExP (Dn 2000000 y.2.2) Dc) (fun y => [(y.1, CPen (y.2.1 + 8 * y.2.2.length))])
theorem c_Sk (D : Dfn K mg "_law_stock" sSk ["_law_pen_here", "_law_words_here"]) (T : Bt mg) (cDr : Cal P w K mg base 1 "_law_draw" ["_law_pen_here", "_law_many"] spDr) (cTi : Cal P w K mg base 3 "_law_times" ["_law_pen_here"] spTi) : Cal P w K mg base 4 "_law_stock" ["_law_pen_here", "_law_words_here"] spSk := D.cal fun f fd F => by
  refine fn_ok F scSk (fun _ _ => rfl) ?_
  rintro ⟨q, n, ws⟩ ⟨hn, hl⟩ cdv A outer s H E B D hB hr hrt hnx
  have hn : n < 700000 := hn
  have hl : ws.length ≤ 8 := hl
  refine xs_done hrt (xe_callTy (call_dictP rfl) rc_dictX (by rfl) T.dict bt_dict (xa_cons (XLc.ls (xlcP (n := n) (q := q) (own := [("_law_word", 2)]) 8 [2] (fun k : Str => [some (Rf q), some (TL ws), some (Vl (.str k))]) ws (fun k => Vl (.str k)) (fun k => Tp [Vl (.str k), II fun z => 0 ≤ z ∧ z ≤ ((2000000 : Nat) : Int)]) rfl scSk.nd (xi_list (v 1)) (blkOk_by (N := nSk) (sc := defScope sSk) (by decide +kernel)) (len64 (by omega)) (by decide)
    (fun k hk s H C cl fp => xg_name (i := 2) scSk.nd rfl (.inl rfl)) (fun i k hi hk s H C cl fp => xe_tup (xa_cons (v 2) (xa_cons ?_ xa_nil)) sl2))) xa_nil))
  refine XE.w (xe_op op_mulW (rv_exl (f := fun d : Nat => d < 3) (Q := fun d => Vl (.int (d : Int))) (R := fun _ => II fun z => 0 ≤ z ∧ z ≤ ((2000000 : Nat) : Int)) fun d hd => rv_exrW (f := fun t : Nat => 1 ≤ t ∧ t ≤ 1000000) (Q := fun t => Vl (.int (t : Int))) fun t ht => rv_of fun x y H H0 s p1 p2 Q k => ⟨(d : Int), (t : Int), p1, p2, mulOk (a := 2) (b := 20) (by show d ≤ 4; have : d < 3 := hd; omega) (by show t ≤ 1048576; have := ht.2; omega) (by decide), k _ ⟨_, ⟨Int.mul_nonneg (by omega) (by omega), ?_⟩, rfl⟩⟩) (xcq [] cDr (hr.mono (by omega)) (q, n + 8 * i, 3) (xa_cons (v 0) (xa_cons xe_int xa_nil)) ⟨by show n + 8 * i < 1000000; omega, (by decide : 0 < 3), (by decide : 3 < 1000000)⟩ rfl rfl fun _ _ p => p) (xcq [] cTi hr (q, n + 8 * i + 1) (xa_cons (v 0) xa_nil) (by show n + 8 * i + 1 < 800000; omega) rfl rfl fun _ _ p => p)) fun v H ⟨_, _, p⟩ => p
  have h1 : d ≤ 2 := by have : d < 3 := hd; omega
  have h2 : t ≤ 1000000 := ht.2
  have h3 := Nat.mul_le_mul h1 h2
  have h4 : ((d * t : Nat) : Int) ≤ ((2 * 1000000 : Nat) : Int) := by omega
  rw [Int.natCast_mul] at h4
  exact h4
end
end Y
/-! text Zk -/
set_option Elab.async false
set_option linter.all false
set_option maxRecDepth 100000
namespace Y
open PySem PySem.Spec PyProof.Rows L2
section
variable {P : Program} {w : World} {K : PySem.W.Frag} {mg : Str → Option Value} {base : Heap} {C : Addr}
theorem xi_keys' {X : Cx} {L : List Addr} {tg e : Expr} {G : Gam} {M M1 : Ml} {d : Addr} {kvs : DD} (he : XE X L e G M (Dca d kvs) M1) (hL : d ∈ L) : XI X L tg e G M ((ks kvs).map fun k => Vl (.str k)) M1 [] := by
  have h := xi_keys (tg := tg) he hL
  have e : (kvs.map fun q => Vl (.str q.1)) = (ks kvs).map fun k => Vl (.str k) := by
    unfold ks
    rw [List.map_map]
    rfl
  rw [← e]
  exact h
/-! Load.of -/
abbrev sLF : Stmt := meth 36 1
theorem scLF : FnScope ["cls", "counts", "kind"] ["cls", "counts"] (defScope sLF) := ⟨rfl, rfl, rfl, by decide +kernel, rfl, by decide +kernel, by decide +kernel⟩
abbrev spLF (C : Addr) : Sp := spP (α := DD) (fun d => d.length < 64 ∧ ∀ k ∈ ks d, Wd k) (fun d => [Rf C, Dc d]) (fun d => Ld C (nz d))
theorem c_LF (D : KDfn K C "of" "Load.of" sLF ["cls", "counts"]) (T : Bt mg) (cCH : Cal P w K mg base 2 "checked" ["counts"] spCH) (cLI : ICal P w K mg base 3 "Load" C (spLI C)) : KCal P w K mg base 5 C "of" (spLF C) := D.cal fun f fd F => by
  refine fn_ok F scLF (fun _ _ => rfl) ?_
  rintro d ⟨hd, hw⟩ cdv A outer s H E B D hB hr hrt hnx
  have hd : d.length < 64 := hd
  have hw : ∀ k ∈ ks d, Wd k := hw
  refine xs_when (p := (· = false)) (XT.w (XW.xt (xw_or (xt_notk (xt_val (xe_callB call_isi (rc_isi (.ty "dict") ty_dc kit_same) (by rfl) T.isinstance bt_isi (xa_cons (v 1) (xa_cons (xe_bt T.dict bt_dict rfl) xa_nil))))) fun _ => xw_one (xt_notk (xt_val (xe_callB (cr_all rfl) (rc_all (bs := (ks d).map fun _ => true)) (by rfl) T.all bt_all (xa_cons ?_ xa_nil)))))) fun b e => ?_) (fun ht => by cases ht) (fun _ => ?_)
  · rw [List.map_map]
    refine xe_dcLock (i := 1) rfl rfl fun a => ?_
    exact XLc.ls (xlcM (own := [("kind", 2)]) [2] (fun k => [some (Rf C), some (Dca a d), some (Vl (.str k))]) (ks d) (fun k => Vl (.str k)) (fun _ => Vl (.bl true)) rfl scLF.nd (xi_keys' (v 1) (.head _)) (blkOk_by (N := ["cls", "counts", "kind"]) (sc := defScope sLF) (by decide +kernel)) (fun _ _ h => h) (len64 (by rw [ks_len]; exact hd)) (by decide)
      (fun r hr s H C cl fp => xg_name (i := 2) scLF.nd rfl (.inl rfl)) (fun k hk s H C cl fp => xe_callB call_isi (rc_isi (.ty "str") ty_str kit_same) (by rfl) T.isinstance bt_isi (xa_cons (v 2) (xa_cons (xe_bt T.str bt_str rfl) xa_nil))))
  · rw [e]
    simp
  · exact xs_done hrt (xe_makeL cLI hr (v 0) (xa_cons (P := Dc (nz d)) (xpw cCH (hr.mono (by omega)) d (xa_cons (v 1) xa_nil) ⟨hd, hw⟩ fun _ _ p => p) xa_nil) ([nz d], []) ⟨Nat.le_refl _, fun h => by cases h⟩ rfl sl1)
/-! Load.total -/
abbrev sLT : Stmt := meth 36 2
theorem scLT : FnScope ["loads", "found", "load"] ["loads"] (defScope sLT) := ⟨rfl, rfl, rfl, by decide +kernel, rfl, by decide +kernel, by decide +kernel⟩
theorem bindLT (kV doc pm : Value) (an : Option Addr) (cdv ct : Value) : ∀ us rest : List Value, us.length = ([] : List Str).length → bindArgs (PySem.W.fnOf "total" "Load.total" (defArgs sLT) (defBody sLT) (defScope sLT) .none kV doc pm an cdv ct) ⟨us ++ rest, []⟩ =
    (newTuple rest >>= fun t => pure (([] : List Str).zip us ++ [(("loads" : Str), t)]))
  | [], [], _ => rfl
  | [], r :: rs, _ => rfl
def ttl (ds : List DD) : DD := ds.foldl (pl (· + ·)) (nz [])
theorem ttl_len (ds : List DD) : (ttl ds).length ≤ (ds.map List.length).sum := by
  have h : ∀ (ds : List DD) (a : DD), (ds.foldl (pl (· + ·)) a).length ≤ a.length + (ds.map List.length).sum := by
    intro ds
    induction ds with
    | nil => exact fun a => Nat.le_refl _
    | cons d ds ih =>
      intro a
      refine Nat.le_trans (ih _) ?_
      have := pl_len (· + ·) a d
      simp only [List.map_cons, List.sum_cons]
      omega
  have := h ds (nz [])
  have h0 := nz_len []
  simp only [List.length_nil] at h0
  unfold ttl
  omega
theorem ttl_take {ds : List DD} {i : Nat} {d : DD} (h : ds[i]? = some d) : ttl (ds.take (i + 1)) = pl (· + ·) (ttl (ds.take i)) d := by
  unfold ttl
  rw [List.take_add_one, h, List.foldl_append]
  rfl
theorem sum_take {ds : List DD} {i : Nat} {d : DD} (h : ds[i]? = some d) : ((ds.take i).map List.length).sum + d.length ≤ (ds.map List.length).sum := by
  have e : ds = ds.take i ++ ds.drop i := (List.take_append_drop i ds).symm
  have hd : ds.drop i = d :: ds.drop (i + 1) := by
    obtain ⟨hl, he⟩ := List.getElem?_eq_some_iff.mp h
    rw [List.drop_eq_getElem_cons hl, he]
  have : (ds.map List.length).sum = ((ds.take i).map List.length).sum + ((ds.drop i).map List.length).sum := by
    conv => lhs; rw [e, List.map_append, List.sum_append]
  rw [this, hd]
  simp only [List.map_cons, List.sum_cons]
  omega
theorem ld_get {C : Addr} {xs : List DD} {i : Nat} {P : VP} (h : (xs.map (Ld C))[i]? = some P) : ∃ r, xs[i]? = some r ∧ P = Ld C r := by
  rw [List.getElem?_map] at h
  cases e : xs[i]? with
  | none =>
    rw [e] at h
    cases h
  | some r =>
    rw [e] at h
    cases h
    exact ⟨r, rfl, rfl⟩
abbrev spLT (C : Addr) : Sp := spStar (spP (α := List DD) (fun ds => (ds.map List.length).sum < 64) (fun ds => [Tp (ds.map (Ld C))]) (fun ds => Ld C (ttl ds))) 0
theorem c_LT (D : SDfn K C "total" "Load.total" sLT) (Z : LdF K C) (cLI : ICal P w K mg base 3 "Load" C (spLI C)) (cLA : MCal P w K mg base 6 C "__add__" ["self", "other"] (spLP C (· + ·))) : SCal P w K mg base 7 C "total" (spLT C) := D.cal fun f fd F => by
  refine fnR_star (ps := []) F scLT bindLT ?_
  rintro ds hd cdv A outer s H E B D hB hr hrt hnx
  obtain ⟨g, fg, Fg, hmg, hbg, hfg⟩ := cLA.ex
  have hd : (ds.map List.length).sum < 64 := hd
  refine xs_set (i := 1) (P := Ld C (nz [])) (M1 := []) ?_ scLT.nd rfl (.inl rfl) ?_
  · exact xe_makeK0 (Fs := fun q : List DD × DD => LF (knd q.1 q.2)) cLI (hr.mono (by omega)) ([], []) ⟨Nat.zero_le _, fun _ => ⟨by decide, fun k hk => by cases hk⟩⟩ rfl
  refine xs_for (ι := Unit) PassesOwn.never rfl (xi_tup (v 0)) (fun i _ => True) (fun i _ => [some (Tp (ds.map (Ld C))), some (Ld C (ttl (ds.take i))), none]) (fun _ _ => []) ⟨(), trivial, (fun _ _ h => h), rfl, fun _ _ h => h⟩ (fun _ _ _ _ _ _ => MO.nil) ?_ ?_
  · rintro i - Q B' bl hQ -
    obtain ⟨d, hid, rfl⟩ := ld_get hQ
    have h1 := ttl_len (ds.take i)
    have h2 := sum_take hid
    refine ⟨[2], _, xg_name (i := 2) scLT.nd rfl (.inl rfl), ?_⟩
    refine xs_set (i := 1) (P := Ld C (ttl (ds.take (i + 1)))) (xe_op (op_own (C := C) hr Fg hbg hmg Z.sf) (rv_own (ttl (ds.take i), d) (by show (ttl (ds.take i)).length + d.length < 64; omega) rfl ld_isI ld_isI fun v H p => ?_) (v 1) (v 2)) scLT.nd rfl (.inl rfl) (xs_nil fun σ H h => ⟨(), trivial, h.unset 2⟩)
    rw [ttl_take hid]
    exact p
  · rintro - -
    refine xs_done hrt (v 1) fun v H p => ?_
    rw [List.length_map, List.take_length] at p
    exact p
end
end Y
/-! text Zl -/
set_option Elab.async false
set_option linter.all false
set_option maxRecDepth 100000
namespace Y
open PySem PySem.Spec PyProof.Rows L2
section
variable {P : Program} {w : World} {K : PySem.W.Frag} {mg : Str → Option Value} {base : Heap} {C : Addr}
/-! has_no_debts -/
abbrev sHD : Stmt := top 42
theorem scHD : FnScope ["value"] ["value"] (defScope sHD) := ⟨rfl, rfl, rfl, by decide +kernel, rfl, by decide +kernel, by decide +kernel⟩
abbrev spHD (C : Addr) : Sp := spP (α := DD) (fun d => d.length < 64) (fun d => [Ld C d]) (fun d => Vl (.bl (ng d).isEmpty))
theorem c_HD (D : Dfn K mg "has_no_debts" sHD ["value"]) (T : Bt mg) (Z : LdF K C) (hL : mg "Load" = some (.ref C)) (cLN : PCal P w K mg base 6 C "negative" (spLN C)) (cLB : MCal P w K mg base 1 C "__bool__" ["self"] (spLB C)) : Cal P w K mg base 8 "has_no_debts" ["value"] (spHD C) := D.cal fun f fd F => by
  refine fn_ok F scHD (fun _ _ => rfl) ?_
  rintro d hd cdv A outer s H E B D hB hr hrt hnx
  have hd : d.length < 64 := hd
  refine xs_done hrt (XE.w (xe_and (k := true) (k' := (ng d).isEmpty) (xe_callB call_isi (rc_isi (.own C) (ty_ins Z.ik) kit_same) (by rfl) T.isinstance bt_isi (xa_cons (v 0) (xa_cons (xe_gl hL rfl) xa_nil))) fun _ => xe_one (XE.w (xe_notO (C := C) (kb := !(ng d).isEmpty) cLB (hr.mono (by omega)) (xe_pr (P := Ld C (ng d)) cLN hr Z.ik.cl (v 0) d hd rfl ld_isI fun _ _ p => p) (ng d) trivial rfl ld_isI fun _ _ p => p) fun v H p => ?_)) fun v H p => ?_)
  · rw [Bool.not_not] at p
    exact p
  · exact p
/-! is_side -/
abbrev sIS : Stmt := top 43
theorem scIS : FnScope ["value", "count"] ["value"] (defScope sIS) := ⟨rfl, rfl, rfl, by decide +kernel, rfl, by decide +kernel, by decide +kernel⟩
/-- a load that can be a side -/
structure Sd (d : DD) : Prop where
  l : d.length < 64
  n : (ng d).isEmpty = true
  m : ∀ q ∈ d, q.2 ≤ 1000000
  nr : Nrm d
abbrev spIS (C : Addr) : Sp := spP (α := DD) Sd (fun d => [Ld C d]) (fun d => Vl (.bl true))
theorem c_IS (D : Dfn K mg "is_side" sIS ["value"]) (T : Bt mg) (Cs : Cst mg) (Z : LdF K C) (cHD : Cal P w K mg base 8 "has_no_debts" ["value"] (spHD C)) (cLC : PCal P w K mg base 1 C "counts" (spLC C)) : Cal P w K mg base 9 "is_side" ["value"] (spIS C) := D.cal fun f fd F => by
  refine fn_ok F scIS (fun _ _ => rfl) ?_
  rintro d hd cdv A outer s H E B D hB hr hrt hnx
  obtain ⟨d1, d2, d3, -⟩ : Sd d := hd
  obtain ⟨t1, e1⟩ := Cs.mc
  refine xs_done hrt (XE.w (xe_and (k := true) (k' := (d.map fun _ => true).all id) (xpw cHD hr d (xa_cons (v 0) xa_nil) d1 fun v H p => ?_) fun _ => xe_one (xe_callB (cr_all rfl) (rc_all (bs := d.map fun _ => true)) (by rfl) T.all bt_all (xa_cons ?_ xa_nil))) fun v H p => ?_)
  · have p : v = .bl (ng d).isEmpty := p
    rw [d2] at p
    exact p
  · rw [List.map_map]
    refine XLc.ls (xlcM (own := [("count", 1)]) [1] (fun q : Str × Int => [some (Ld C d), some (Vl (.int q.2))]) d (fun q => Vl (.int q.2)) (fun _ => Vl (.bl true)) rfl scIS.nd (xi_valsN (xem_prop (Cf := fun q => CDc q) cLC (hr.mono (by omega)) Z.ik.cl (v 0) d trivial rfl ld_isI)) (blkOk_by (N := ["value", "count"]) (sc := defScope sIS) (by decide +kernel)) (fun _ _ h => h) (len64 d1) (by decide)
      (fun r hr s H C cl fp => xg_name (i := 1) scIS.nd rfl (.inl rfl)) (fun q hq s H C cl fp => XE.w (xe_cmp op_le (rv_i0 (i := q.2) (j := 1000000)) (v 1) (xe_gl e1 ⟨t1, rfl⟩) (nomark _)) fun v H p => ?_))
    have p : v = .bl (decide (q.2 ≤ 1000000)) := p
    rw [decide_eq_true (d3 q hq)] at p
    exact p
  · have p : v = .bl (true && (d.map fun _ => true).all id) := p
    rw [p]
    show V.bl _ = V.bl true
    simp
/-! kinds_of -/
abbrev sKO : Stmt := top 44
theorem scKO : FnScope ["loads", "load", "kind"] ["loads"] (defScope sKO) := ⟨rfl, rfl, rfl, by decide +kernel, rfl, by decide +kernel, by decide +kernel⟩
abbrev kof (ds : List DD) : List Str := srt (ds.flatMap ks)
abbrev spKO (C : Addr) : Sp := spP (α := List DD) (fun ds => (ds.flatMap ks).length < 64) (fun ds => [Ls (ds.map (Ld C))]) (fun ds => TT' (kof ds))
theorem c_KO (D : Dfn K mg "kinds_of" sKO ["loads"]) (T : Bt mg) (Z : LdF K C) (cLK : PCal P w K mg base 1 C "kinds" (spLK C)) : Cal P w K mg base 3 "kinds_of" ["loads"] (spKO C) := D.cal fun f fd F => by
  refine fn_ok F scKO (fun _ _ => rfl) ?_
  rintro ds hd cdv A outer s H E B D hB hr hrt hnx
  have hd : (ds.flatMap ks).length < 64 := hd
  refine xs_done hrt (xe_callTy call_tuple_of rc_tupL (by rfl) T.tuple bt_tuple (xa_cons (xe_sortset (ks := ds.flatMap ks) (P := Ls (ds.flatMap fun d => (ks d).map fun k => Vl (.str k))) ?_ (fun v H p => .inl (by show (Ls ((ds.flatMap ks).map _)).p v H; rw [List.map_flatMap]; exact p)) hd T.sorted T.set) xa_nil))
  exact XEm.ls (xem_lc2 (own := [("load", 1), ("kind", 2)]) [2] [1] [2] (fun d : DD => [some (Ls (ds.map (Ld C))), some (Ld C d), none]) (fun (d : DD) (k : Str) => [some (Ls (ds.map (Ld C))), some (Ld C d), some (Vl (.str k))]) ds ks (Ld C) (fun _ k => Vl (.str k)) (fun _ k => Vl (.str k)) rfl scKO.nd (xi_list (v 0)) (blkOk_by (N := ["loads", "load", "kind"]) (sc := defScope sKO) (by decide +kernel)) (len64 hd) (by decide) (by decide) (by decide)
      (fun r hr s H C cl fp => xg_name (i := 1) scKO.nd rfl (.inl rfl)) (fun d hd q s H C' cl fp => xi_tup (xe_pr (P := TT' (ks d)) cLK (hr.mono (by omega)) Z.ik.cl (v 1) d trivial rfl ld_isI fun _ _ p => p)) (fun d hd k hk s H C cl fp => xg_name (i := 2) scKO.nd rfl (.inl rfl)) (fun d hd k hk s H C cl fp => v 2))
/-! sides, vector_of, check_debts -/
abbrev sSI : Stmt := top 45
theorem scSI : FnScope ["pairs", "pair", "load"] ["pairs"] (defScope sSI) := ⟨rfl, rfl, rfl, by decide +kernel, rfl, by decide +kernel, by decide +kernel⟩
abbrev Pr (C : Addr) (q : DD × DD) : VP := Tp [Ld C q.1, Ld C q.2]
def two (q : DD × DD) : List DD := [q.1, q.2]
theorem two_len (ps : List (DD × DD)) : (ps.flatMap two).length = 2 * ps.length := by
  induction ps with
  | nil => rfl
  | cons q ps ih =>
    rw [List.flatMap_cons, List.length_append, ih]
    simp only [two, List.length_cons, List.length_nil]
    omega
theorem prTp {C : Addr} {q : DD × DD} : Pr C q = Tp ((two q).map (Ld C)) := rfl
abbrev spSI (C : Addr) : Sp := spP (α := List (DD × DD)) (fun ps => ps.length < 64) (fun ps => [Tp (ps.map (Pr C))]) (fun ps => Ls ((ps.flatMap two).map (Ld C)))
theorem c_SI (D : Dfn K mg "sides" sSI ["pairs"]) : Cal P w K mg base 1 "sides" ["pairs"] (spSI C) := D.cal fun f fd F => by
  refine fn_ok F scSI (fun _ _ => rfl) ?_
  rintro ps hd cdv A outer s H E B D hB hr hrt hnx
  have hd : ps.length < 64 := hd
  have hl := two_len ps
  rw [List.map_flatMap] at hrt
  exact xs_done hrt (XEm.ls (xem_lc2 (own := [("pair", 1), ("load", 2)]) [2] [1] [2] (fun q : DD × DD => [some (Tp (ps.map (Pr C))), some (Pr C q), none]) (fun (q : DD × DD) (d : DD) => [some (Tp (ps.map (Pr C))), some (Pr C q), some (Ld C d)]) ps two (Pr C) (fun _ d => Ld C d) (fun _ d => Ld C d) rfl scSI.nd (xi_tup (v 0)) (blkOk_by (N := ["pairs", "pair", "load"]) (sc := defScope sSI) (by decide +kernel)) (Nat.lt_of_lt_of_le (by rw [hl]; omega : _ < 128) (by rw [sizeLine_eq]; decide)) (by decide) (by decide) (by decide)
      (fun r hr s H C cl fp => xg_name (i := 1) scSI.nd rfl (.inl rfl)) (fun d hd q s H C' cl fp => xi_tup (v 1)) (fun d hd k hk s H C cl fp => xg_name (i := 2) scSI.nd rfl (.inl rfl)) (fun d hd k hk s H C cl fp => v 2)))
abbrev sVO : Stmt := top 46
theorem scVO : FnScope ["kinds", "load", "kind"] ["kinds", "load"] (defScope sVO) := ⟨rfl, rfl, rfl, by decide +kernel, rfl, by decide +kernel, by decide +kernel⟩
abbrev spVO (C : Addr) : Sp := spP (α := List Str × DD) (fun q => q.1.length < 64) (fun q => [TT' q.1, Ld C q.2]) (fun q => IL (q.1.map (gt q.2)))
theorem c_VO (D : Dfn K mg "vector_of" sVO ["kinds", "load"]) (cLG : MCal P w K mg base 1 C "__getitem__" ["self", "kind"] (spLG C)) : Cal P w K mg base 3 "vector_of" ["kinds", "load"] (spVO C) := D.cal fun f fd F => by
  refine fn_ok F scVO (fun _ _ => rfl) ?_
  rintro ⟨kk, d⟩ hd cdv A outer s H E B D hB hr hrt hnx
  have hd : kk.length < 64 := hd
  refine xs_done hrt (XE.w (XLc.ls (xlcM (own := [("kind", 2)]) [2] (fun k : Str => [some (TT' kk), some (Ld C d), some (Vl (.str k))]) kk (fun k => Vl (.str k)) (fun k => Vl (.int (gt d k))) rfl scVO.nd (xi_tup (v 0)) (blkOk_by (N := ["kinds", "load", "kind"]) (sc := defScope sVO) (by decide +kernel)) (fun _ _ h => h) (len64 hd) (by decide)
      (fun r hr s H C cl fp => xg_name (i := 2) scVO.nd rfl (.inl rfl)) (fun k hk s H C' cl fp => xe_own cLG (hr.mono (by omega)) (v 1) (v 2) (d, k) trivial rfl ld_isI fun _ _ p => p))) fun v H p => ?_)
  have e : IL (kk.map (gt d)) = Ls (kk.map fun k => Vl (.int (gt d k))) := by
    show Ls ((kk.map (gt d)).map _) = _
    rw [List.map_map]
    rfl
  rw [e]
  exact p
abbrev sCD : Stmt := top 51
theorem scCD : FnScope ["one", "other", "load"] ["one", "other"] (defScope sCD) := ⟨rfl, rfl, rfl, by decide +kernel, rfl, by decide +kernel, by decide +kernel⟩
abbrev spCD (C : Addr) : Sp := spP (α := DD × DD) (fun q => ∀ d ∈ two q, d.length < 64 ∧ (ng d).isEmpty = true) (fun q => [Ld C q.1, Ld C q.2]) (fun q => Vl .non)
theorem c_CD (D : Dfn K mg "check_debts" sCD ["one", "other"]) (Z : LdF K C) (cLN : PCal P w K mg base 6 C "negative" (spLN C)) (cLB : MCal P w K mg base 1 C "__bool__" ["self"] (spLB C)) : Cal P w K mg base 8 "check_debts" ["one", "other"] (spCD C) := D.cal fun f fd F => by
  refine fn_ok F scCD (fun _ _ => rfl) ?_
  rintro q hq cdv A outer s H E B D hB hr hrt hnx
  have hq : ∀ d ∈ two q, d.length < 64 ∧ (ng d).isEmpty = true := hq
  refine xs_for (ι := Unit) PassesOwn.never rfl (xi_tup (xe_tup (Ps := (two q).map (Ld C)) (xa_cons (v 0) (xa_cons (v 1) xa_nil)) (by rw [sizeLine_eq]; exact (by decide : 2 ≤ 16777216)))) (fun i _ => True) (fun i _ => [some (Ld C q.1), some (Ld C q.2), none]) (fun _ _ => []) ⟨(), trivial, (fun _ _ h => h), rfl, fun _ _ h => h⟩ (fun _ _ _ _ _ _ => MO.nil) ?_ ?_
  · rintro i - Q B' bl hQ -
    obtain ⟨d, hid, rfl⟩ := ld_get hQ
    obtain ⟨h1, h2⟩ := hq d (List.mem_of_getElem? hid)
    refine ⟨[2], _, xg_name (i := 2) scCD.nd rfl (.inl rfl), ?_⟩
    refine xs_when (p := (· = !(ng d).isEmpty)) (xt_own (C := C) cLB (hr.mono (by omega)) (xe_pr (P := Ld C (ng d)) cLN hr Z.ik.cl (v 2) d h1 rfl ld_isI fun _ _ p => p) (ng d) trivial rfl ld_isI fun _ _ p => p) (fun ht => by rw [h2] at ht; cases ht) (fun _ => ?_)
    exact xs_nil fun σ H h => ⟨(), trivial, h.unset 2⟩
  · rintro - -
    exact xs_nil fun σ H h => end_non hrt hnx h
end
end Y
/-! text Zm -/
set_option Elab.async false
set_option linter.all false
set_option maxRecDepth 100000
namespace Y
open PySem PySem.Spec PyProof.Rows L2
/-- the class Unbounded -/
structure UnF (K : PySem.W.Frag) (mg : Str → Option Value) (U : Addr) : Prop where
  g : mg "Unbounded" = some (.ref U)
  kt : PySem.W.kitOne K (.type "tuple") (.ref U) = some false
  cv : Cls K U
theorem get_map {α : Type} {R : α → VP} {xs : List α} {i : Nat} {P : VP} (h : (xs.map R)[i]? = some P) : ∃ r, xs[i]? = some r ∧ P = R r := by
  rw [List.getElem?_map] at h
  cases e : xs[i]? with
  | none =>
    rw [e] at h
    cases h
  | some r =>
    rw [e] at h
    cases h
    exact ⟨r, rfl, rfl⟩
structure OkP (ps : List (DD × DD)) : Prop where
  n : ps.length ≤ 8
  sd : ∀ q ∈ ps, Sd q.1 ∧ Sd q.2
  k6 : (kof (ps.flatMap two)).length ≤ 6
  k64 : ((ps.flatMap two).flatMap ks).length < 64
  n6 : ps.length ≤ 6
  s6 : ∀ q ∈ ps, q.1.length ≤ 6 ∧ q.2.length ≤ 6
section
variable {P : Program} {w : World} {K : PySem.W.Frag} {mg : Str → Option Value} {base : Heap} {C U : Addr}
abbrev sCP : Stmt := top 50
theorem scCP : FnScope ["pairs", "index", "pair", "side"] ["pairs"] (defScope sCP) := ⟨rfl, rfl, rfl, by decide +kernel, rfl, by decide +kernel, by decide +kernel⟩
abbrev TPr (C : Addr) (ps : List (DD × DD)) : VP := Tp (ps.map (Pr C))
abbrev spCP (C : Addr) : Sp := spP (α := List (DD × DD)) OkP (fun ps => [TPr C ps]) (fun ps => TPr C ps)
theorem c_CP (D : Dfn K mg "checked_pairs" sCP ["pairs"]) (T : Bt mg) (Cs : Cst mg) (Z : LdF K C) (ZU : UnF K mg U) (cIS : Cal P w K mg base 9 "is_side" ["value"] (spIS C)) (cSI : Cal P w K mg base 1 "sides" ["pairs"] (spSI C)) (cKO : Cal P w K mg base 3 "kinds_of" ["loads"] (spKO C)) : Cal P w K mg base 10 "checked_pairs" ["pairs"] (spCP C) := D.cal fun f fd F => by
  refine fn_ok F scCP (fun _ _ => rfl) ?_
  rintro ps hp cdv A outer s H E B D hB hr hrt hnx
  obtain ⟨h1, h2, h3, h4, -⟩ : OkP ps := hp
  obtain ⟨t1, e1⟩ := Cs.mp
  obtain ⟨t2, e2⟩ := Cs.mkk
  refine xs_when (p := (· = false)) (XT.w (XW.xt (xw_and (k := ((ps.map (Pr C)).length : Int) == 1) (xt_cmp op_eq rv_eqI (xe_callB call_len_seq rc_lenT (by rfl) T.len bt_len (xa_cons (v 0) xa_nil)) xe_int (nomark _)) fun hk => xw_one (p := (· = false)) ?_)) fun b e => by rw [e]; exact Bool.and_false _) (fun ht => by cases ht) (fun _ => ?_)
  · cases ps with
    | nil => cases hk
    | cons q qs => exact xt_val (xe_callB call_isi (rc_isi (.own U) ty_tup ZU.kt) (by rfl) T.isinstance bt_isi (xa_cons (xe_ix ix_tup (fun _ _ => rfl) (rv_ixT (n := 0) (P := Pr C q) rfl) (v 0) xe_int) (xa_cons (xe_gl ZU.g rfl) xa_nil)))
  refine xs_for (ι := Unit) PassesOwn.never rfl (xi_enumT rfl T.enumerate (v 0)) (fun i _ => True) (fun i _ => [some (TPr C ps), none, none, none]) (fun _ _ => []) ⟨(), trivial, (fun _ _ h => h), rfl, fun _ _ h => h⟩ (fun _ _ _ _ _ _ => MO.nil) ?_ ?_
  · rintro i - Q B' bl hQ -
    rw [enum_pairs (Pr C)] at hQ
    obtain ⟨⟨n, q⟩, hq, rfl⟩ := get_map hQ
    have hqm : q ∈ ps := (List.of_mem_zip (List.mem_of_getElem? hq)).2
    obtain ⟨s1, s2⟩ := h2 q hqm
    refine ⟨[1, 2], _, xg_tup rfl (xgs_cons (xg_name (i := 1) scCP.nd rfl (.inl rfl)) (xgs_cons (xg_name (i := 2) scCP.nd rfl (.inl rfl)) xgs_nil)), ?_⟩
    refine xs_when (p := (· = false)) (XT.w (XW.xt (xw_or (xt_notk (xt_val (xe_callB call_isi (rc_isi (.ty "tuple") ty_tup kit_same) (by rfl) T.isinstance bt_isi (xa_cons (v 2) (xa_cons (xe_bt T.tuple bt_tuple rfl) xa_nil))))) fun _ => xw_or (xt_cmp op_ne rv_neI (xe_callB call_len_seq rc_lenT (by rfl) T.len bt_len (xa_cons (v 2) xa_nil)) xe_int (nomark _)) fun _ => xw_one (xt_notk (xt_val (xe_callB (cr_all rfl) (rc_all (bs := (two q).map fun _ => true)) (by rfl) T.all bt_all (xa_cons ?_ xa_nil)))))) fun b e => ?_) (fun ht => by cases ht) (fun _ => ?_)
    · rw [List.map_map]
      exact XLc.ls (xlcM (own := [("side", 3)]) [3] (fun d : DD => [some (TPr C ps), some (Vl (.int (n : Int))), some (Pr C q), some (Ld C d)]) (two q) (fun d => Ld C d) (fun _ => Vl (.bl true)) rfl scCP.nd (xi_tup (v 2)) (blkOk_by (N := ["pairs", "index", "pair", "side"]) (sc := defScope sCP) (by decide +kernel)) (fun _ _ h => h) (len64 (by decide : 2 < 64)) (by decide)
        (fun r hr s H C cl fp => xg_name (i := 3) scCP.nd rfl (.inl rfl)) (fun d hd s H C' cl fp => xpw cIS hr d (xa_cons (v 3) xa_nil) (by
          rcases List.mem_cons.mp hd with e | hd
          · rw [e]; exact s1
          · rw [List.mem_singleton.mp hd]; exact s2) fun _ _ p => p))
    · rw [e]
      rfl
    · exact xs_nil fun σ H h => ⟨(), trivial, (h.unset 1).unset 2⟩
  · rintro - -
    refine xs_when (p := (· = false)) (XT.w (xt_cmp op_gt (rv_i0 (i := ((ps.map (Pr C)).length : Int)) (j := 8)) (xe_callB call_len_seq rc_lenT (by rfl) T.len bt_len (xa_cons (v 0) xa_nil)) (xe_gl e1 ⟨t1, rfl⟩) (nomark _)) fun b e => ?_) (fun ht => by cases ht) (fun _ => ?_)
    · rw [e, List.length_map]
      exact decide_eq_false (by omega)
    refine xs_when (p := (· = false)) (XT.w (xt_cmp op_gt (rv_i0 (i := (((kof (ps.flatMap two)).map fun k => Vl (.str k)).length : Int)) (j := 6)) (xe_callB call_len_seq rc_lenT (by rfl) T.len bt_len (xa_cons (P := TT' (kof (ps.flatMap two))) (xpw cKO (hr.mono (by omega)) (ps.flatMap two) (xa_cons (xpw cSI (hr.mono (by omega)) ps (xa_cons (v 0) xa_nil) (by show ps.length < 64; omega) fun _ _ p => p) xa_nil) h4 fun _ _ p => p) xa_nil)) (xe_gl e2 ⟨t2, rfl⟩) (nomark _)) fun b e => ?_) (fun ht => by cases ht) (fun _ => ?_)
    · rw [e, List.length_map]
      exact decide_eq_false (by omega)
    exact xs_done hrt (v 0)
end
end Y
/-! text Zn -/
set_option Elab.async false
set_option linter.all false
set_option maxRecDepth 100000
namespace Y
open PySem PySem.Spec PyProof.Rows L2
def AnyP : VP := ⟨fun _ _ => True, fun _ _ _ _ _ => trivial⟩
section
variable {X : Cx} {L : List Addr} {e o : Expr} {G : Gam} {M : Ml} {B : Bs} {D : Ends} {rest : List Stmt} {pos pos' : Pos} {C dx q : Addr} {fps : Fps} {f : Str}
theorem xs_fldMX {α : Type} {fa : α → Prop} {Q : α → VP} (hv : XE X L e G ((q, CI C dx fps) :: M) (ExP fa Q) ((q, CI C dx fps) :: M)) (ho : XE X L o G ((q, CI C dx fps) :: M) (Rf q) ((q, CI C dx fps) :: M)) (hc : Cls X.K C) (hn : NoAttr X.K C f) (hf : f ∉ fps.map Prod.fst) (hz : fps.length < 1000)
    (hr : ∀ a, fa a → XS X L rest B G ((q, CI C dx (fps ++ [(f, Q a)])) :: M) D) (hs : swapsWith e (some (.Attribute o f pos')) pos.line X.env = pure false := by rfl) : XS X L (.Assign [.Attribute o f pos'] e pos :: rest) B G ((q, CI C dx fps) :: M) D :=
  xs_of (ps_fld pW pW hs) fun σ H ⟨H0, g, l, m, fr⟩ => hv.then2 ho g.sub l m fun y x H1 H01 g1 s1 l1 m1 p1 p2 => by
    obtain ⟨u, fu, p1⟩ := p1
    obtain ⟨h1, ob, h2, vs, h3, h4⟩ := m1.2 (q, CI C dx fps) (.head _)
    have h2 : H1 q = some ob := h2
    have h1 : H01 q = none := h1
    rw [h3] at h2
    have hlen : (fps.map Prod.fst).length = vs.length := by rw [h4.len, List.length_map, List.length_map]
    have gB : Grow L B.A B.h0 B.h H01 H1 := g.trans g1 fr
    have hq : q ∈ B.A ∨ B.h q = none := fr q (by simp [ads])
    refine ⟨q, C, dx, _, p2, h2, hc, hn, ?_, (hr u fu).run _ _ ⟨H01, gB.write h1 hq, l1, ⟨m1.1, fun c hc' => ?_⟩, fr⟩⟩
    · unfold zipF
      rw [List.length_zip, List.length_map]
      omega
    · rcases List.mem_cons.mp hc' with z | z
      · subst z
        refine ⟨h1, _, upd_same, vs ++ [y], ?_, ?_⟩
        · unfold zipF
          rw [putF_zip hlen hf, List.map_append]
          rfl
        · rw [List.map_append]
          exact h4.app (AllP.one p1)
      · obtain ⟨k1, u, k2, k3⟩ := m1.2 c (List.mem_cons_of_mem _ z)
        have ne : c.1 ≠ q := fun e => by
          have nd := m1.1
          rw [show ads ((q, CI C dx fps) :: M) = q :: ads M from rfl] at nd
          exact (List.nodup_cons.mp nd).1 (List.mem_map.mpr ⟨c, z, e⟩)
        exact ⟨k1, u, by rw [upd_ne ne]; exact k2, k3⟩
/-- the last cell in a weaker form -/
theorem end_nonW {C1 C2 : CP} (hw : ∀ o H, C1.p o H → C2.p o H) (hrt : ∀ v H, rtA L B (Vl .non) [(q, C2)] v H → D.rt v H) (hnx : ∀ (σ : St) H, D.rt .non H → D.nx σ H) {σ : St} {H : Hp} (h : stA L B G [(q, C1)] σ H) : D.nx σ H := by
  obtain ⟨H0, g, l, m, _⟩ := h
  refine hnx σ H (hrt .non H ⟨H0, g, rfl, m.1, fun c hc => ?_⟩)
  have hc := List.mem_singleton.mp hc
  subst hc
  obtain ⟨k1, u, k2, k3⟩ := m.2 (q, C1) (.head _)
  exact ⟨k1, u, k2, hw _ _ k3⟩
end
/-! ### Exchanges.__init__ -/
structure ExF (K : PySem.W.Frag) (E : Addr) : Prop where
  cl : Cls K E
  n1 : NoAttr K E "own_pairs"
  n2 : NoAttr K E "own_kinds"
  n3 : NoAttr K E "rows"
  n4 : NoAttr K E "own_basis"
  n5 : NoAttr K E "pivots"
abbrev sEI : Stmt := meth 53 0
theorem scEI : FnScope ["self", "pairs", "left", "right", "row"] ["self", "pairs"] (defScope sEI) := ⟨rfl, rfl, rfl, by decide +kernel, rfl, by decide +kernel, by decide +kernel⟩
theorem bindEI (kV doc pm : Value) (an : Option Addr) (cdv ct : Value) : ∀ us rest : List Value, us.length = (["self"] : List Str).length → bindArgs (PySem.W.fnOf "__init__" "Exchanges.__init__" (defArgs sEI) (defBody sEI) (defScope sEI) .none kV doc pm an cdv ct) ⟨us ++ rest, []⟩ =
    (newTuple rest >>= fun t => pure ((["self"] : List Str).zip us ++ [(("pairs" : Str), t)]))
  | [a], [], _ => rfl
  | [a], r :: rs, _ => rfl
/-- the kinds, the rows -/
def exK (ps : List (DD × DD)) : List Str := kof (ps.flatMap two)
def exR (ps : List (DD × DD)) : List Row := ps.map fun q => (exK ps).map (gt (pl (· - ·) q.1 q.2))
abbrev XF (C : Addr) (ps : List (DD × DD)) : Fps := [("own_pairs", TPr C ps), ("own_kinds", TT' (exK ps)), ("rows", ILL (exR ps)), ("own_basis", AnyP), ("pivots", AnyP)]
abbrev Ex (E C : Addr) (ps : List (DD × DD)) : VP := Ins E (XF C ps)
theorem bd_of {N : Nat} {r : Row} (h : ∀ x ∈ r, x.natAbs ≤ N) : Mt.Bd N r := fun j => by
  by_cases hj : j < r.length
  · have e : Mt.at_ r j = r[j] := by
      unfold Mt.at_
      rw [List.getD_eq_getElem?_getD, List.getElem?_eq_getElem hj]
      rfl
    rw [e]
    exact h _ (List.getElem_mem hj)
  · rw [Mt.at_out (by omega)]
    exact Nat.zero_le _
theorem Sd.ge {d : DD} (h : Sd d) (k : Str) : 0 ≤ gt d k := (ng_empty h.nr).mp h.n k
theorem Sd.le {d : DD} (h : Sd d) (k : Str) : gt d k ≤ 1000000 := by
  unfold gt
  cases e : gv d k with
  | none =>
    show (0 : Int) ≤ 1000000
    decide
  | some v => exact h.m _ (mem_of_gv e)
theorem exR_bd {ps : List (DD × DD)} (h : OkP ps) : ∀ r ∈ exR ps, Mt.Bd (2 ^ 20) r := fun r hr => by
  obtain ⟨q, hq, rfl⟩ := List.mem_map.mp hr
  obtain ⟨s1, s2⟩ := h.sd q hq
  refine bd_of fun x hx => ?_
  obtain ⟨k, hk, rfl⟩ := List.mem_map.mp hx
  rw [pl_gt (by rfl)]
  have a1 := s1.ge k
  have a2 := s1.le k
  have b1 := s2.ge k
  have b2 := s2.le k
  show (gt q.1 k - gt q.2 k).natAbs ≤ 1048576
  omega
theorem exR_len {ps : List (DD × DD)} : ∀ r ∈ exR ps, r.length = (exK ps).length := fun r hr => by
  obtain ⟨q, hq, rfl⟩ := List.mem_map.mp hr
  exact List.length_map ..
theorem exR_pre {ps : List (DD × DD)} (h : OkP ps) : PreTR (exK ps).length (exK ps).length (exR ps) := by
  have := h.k6
  exact ⟨exR_len, exR_bd h, by unfold exR; rw [List.length_map]; exact h.n6, by unfold exK; omega, this, Nat.le_refl _⟩
section
variable {P : Program} {w : World} {K : PySem.W.Frag} {mg : Str → Option Value} {base : Heap} {C U EC : Addr}
abbrev spEI (EC C : Addr) : Sp := spStar (spI (α := List (DD × DD)) EC OkP (fun ps => [TPr C ps]) (fun ps => XF C ps)) 1
theorem c_EI (D : IDfn K mg "Exchanges" EC "Exchanges.__init__" sEI) (T' : Bt mg) (Z : LdF K C) (ZE : ExF K EC) (cCP : Cal P w K mg base 10 "checked_pairs" ["pairs"] (spCP C)) (cKO : Cal P w K mg base 3 "kinds_of" ["loads"] (spKO C)) (cSI : Cal P w K mg base 1 "sides" ["pairs"] (spSI C))
    (cVO : Cal P w K mg base 3 "vector_of" ["kinds", "load"] (spVO C)) (cLS : MCal P w K mg base 6 C "__sub__" ["self", "other"] (spLP C (· - ·))) (cTR : Cal P w K mg base 3 "triangular" ["rows", "width"] spTR) (cFP : Cal P w K mg base 1 "first_place" ["row", "width"] spFP) : ICal P w K mg base 11 "Exchanges" EC (spEI EC C) := D.cal fun f fd F => by
  refine fnR_star (ps := ["self"]) F scEI bindEI ?_
  rintro ⟨ps, x, dx⟩ hp cdv A outer s H E B D hB hr hrt hnx
  have hp : OkP ps := hp
  have h64 := hp.k64
  have hn6 := hp.n6
  have hk6 : (exK ps).length ≤ 6 := hp.k6
  obtain ⟨g, fg, Fg, hmg, hbg, hfg⟩ := cLS.ex
  refine xs_fldM (P := TPr C ps) (xpw cCP hr ps (xa_cons (v 1) xa_nil) hp fun _ _ p => p) (v 0) ZE.cl ZE.n1 (by simp) (by simp) ?_
  refine xs_fldM (P := TT' (exK ps)) (xpw cKO (hr.mono (by omega)) (ps.flatMap two) (xa_cons (xpw cSI (hr.mono (by omega)) ps (xa_cons (xe_fldM (v 0) rfl ZE.cl ZE.n1) xa_nil) (by show ps.length < 64; omega) fun _ _ p => p) xa_nil) h64 fun _ _ p => p) (v 0) ZE.cl ZE.n2 (by simp; decide) (by simp) ?_
  refine xs_fldM (P := ILL (exR ps)) ?_ (v 0) ZE.cl ZE.n3 (by simp; decide) (by simp) ?_
  · have e : ILL (exR ps) = Ls (ps.map fun q => IL ((exK ps).map (gt (pl (· - ·) q.1 q.2)))) := by
      show Ls ((exR ps).map IL) = _
      unfold exR
      rw [List.map_map]
      rfl
    rw [e]
    refine XLc.ls (xlcM (own := [("left", 2), ("right", 3)]) [2, 3] (fun q : DD × DD => [some (Rf x), some (TPr C ps), some (Ld C q.1), some (Ld C q.2), none]) ps (Pr C) (fun q => IL ((exK ps).map (gt (pl (· - ·) q.1 q.2)))) rfl scEI.nd (xi_tup (xe_fldM (v 0) rfl ZE.cl ZE.n1)) (blkOk_by (N := ["self", "pairs", "left", "right", "row"]) (sc := defScope sEI) (by decide +kernel)) (fun _ _ _ => MO.nil) (len64 (by omega)) (by decide)
      (fun r hr s H C cl fp => xg_tup rfl (xgs_cons (xg_name (i := 2) scEI.nd rfl (.inl rfl)) (xgs_cons (xg_name (i := 3) scEI.nd rfl (.inl rfl)) xgs_nil))) (fun q hq s H C' cl fp => xpw cVO (hr.mono (by omega)) (exK ps, pl (· - ·) q.1 q.2) (xa_cons (xe_fldM (v 0) rfl ZE.cl ZE.n2) (xa_cons (xe_op (op_own (C := C) (hr.mono (by omega)) Fg hbg hmg Z.sf) (rv_own (P := Ld C (pl (· - ·) q.1 q.2)) q ?_ rfl ld_isI ld_isI fun _ _ p => p) (v 2) (v 3)) xa_nil)) ?_ fun _ _ p => p))
    · obtain ⟨s1, s2⟩ := hp.sd q hq
      show q.1.length + q.2.length < 64
      have hm : q.1.length + q.2.length ≤ ((ps.flatMap two).flatMap ks).length := by
        obtain ⟨a, b, e⟩ := List.append_of_mem hq
        rw [e]
        simp only [List.flatMap_append, List.flatMap_cons, List.length_append, two, ks_len, List.flatMap_nil, List.length_nil]
        omega
      omega
    · show (exK ps).length < 64
      omega
  refine xs_fldMX (fa := fun T : List Row => (∀ r ∈ T, r.length = (exK ps).length) ∧ T.length ≤ 6) (Q := fun T => ILL T) ?_ (v 0) ZE.cl ZE.n4 (by simp; decide) (by simp) ?_
  · refine XE.w (xe_ix ix_tup (fun _ _ => rfl) (rv_exl (f := fun y : List Row × List Row => Tria (exK ps).length (exK ps).length (exR ps) y.1 y.2) (R := fun y => ILL y.1) fun y hy => rv_ixT (n := 0) (P := ILL y.1) rfl) (xpw cTR (hr.mono (by omega)) (exR ps, (exK ps).length, (exK ps).length) (xa_cons (xe_fldM (v 0) rfl ZE.cl ZE.n3) (xa_cons (XE.w (xe_callB call_len_seq rc_lenT (by rfl) T'.len bt_len (xa_cons (xe_fldM (v 0) rfl ZE.cl ZE.n2) xa_nil)) fun v H p => ?_) xa_nil)) (exR_pre hp) fun _ _ p => p) xe_int) fun v H p => ?_
    · rw [List.length_map] at p
      exact p
    · obtain ⟨⟨T, S⟩, h1, h2⟩ := p
      have h1 : Tria (exK ps).length (exK ps).length (exR ps) T S := h1
      refine ⟨T, ⟨h1.tri.len, ?_⟩, h2⟩
      have := h1.num
      rw [List.length_append] at this
      have e : (exR ps).length = ps.length := List.length_map ..
      omega
  rintro T ⟨t1, t2⟩
  refine xs_fldM (P := AnyP) ?_ (v 0) ZE.cl ZE.n5 (by simp; decide) (by simp) ?_
  · refine XE.w (XLc.ls (xlcM (own := [("row", 4)]) [4] (fun r : Row => [some (Rf x), some (TPr C ps), none, none, some (IL r)]) T IL (fun r => Vl (fpV (exK ps).length r)) rfl scEI.nd (xi_list (xe_fldM (v 0) rfl ZE.cl ZE.n4)) (blkOk_by (N := ["self", "pairs", "left", "right", "row"]) (sc := defScope sEI) (by decide +kernel)) (fun _ _ _ => MO.nil) (len64 (by omega)) (by decide)
      (fun r hr s H C cl fp => xg_name (i := 4) scEI.nd rfl (.inl rfl)) (fun r hrm s H C' cl fp => xpw cFP (hr.mono (by omega)) (r, (exK ps).length) (xa_cons (v 4) (xa_cons (XE.w (xe_callB call_len_seq rc_lenT (by rfl) T'.len bt_len (xa_cons (xe_fldM (v 0) rfl ZE.cl ZE.n2) xa_nil)) fun v H p => ?_) xa_nil)) ⟨?_, len64 (by show (exK ps).length < 64; omega)⟩ fun _ _ p => p))) fun v H p => trivial
    · rw [List.length_map] at p
      exact p
    · show (exK ps).length ≤ r.length
      rw [t1 r hrm]
      exact Nat.le_refl _
  refine xs_nil fun σ H h => end_nonW (fun o H h => ?_) hrt hnx h
  obtain ⟨vs, h1, h2⟩ := h
  refine ⟨vs, h1, ?_⟩
  match vs, h2 with
  | [_, _, _, _, _], ⟨a, b, c, d, e, f⟩ => exact ⟨a, b, c, trivial, trivial, trivial⟩
end
end Y
/-! text Zo -/
set_option Elab.async false
set_option linter.all false
set_option maxRecDepth 100000
namespace Y
open PySem PySem.Spec PyProof.Rows L2
/-! ### combinations of pairs, kind by kind -/
def cmbK : List Int → List (DD × DD) → Str → Int
  | c :: f, q :: ps, k => c * (gt q.1 k - gt q.2 k) + cmbK f ps k
  | _, _, _ => 0
theorem at_map {kk : List Str} {g : Str → Int} {j : Nat} (h : j < kk.length) : Mt.at_ (kk.map g) j = g kk[j] := by
  unfold Mt.at_
  rw [List.getD_eq_getElem?_getD, List.getElem?_map, List.getElem?_eq_getElem h]
  rfl
theorem comb_cmb {kk : List Str} {j : Nat} (h : j < kk.length) : ∀ (f : List Int) (ps : List (DD × DD)), Mt.comb f (ps.map fun q => kk.map (gt (pl (· - ·) q.1 q.2))) j = cmbK f ps kk[j]
  | [], [] => rfl
  | [], _ :: _ => rfl
  | _ :: _, [] => rfl
  | c :: f, q :: ps => by
    show c * Mt.at_ (kk.map (gt (pl (· - ·) q.1 q.2))) j + Mt.comb f _ j = c * (gt q.1 kk[j] - gt q.2 kk[j]) + cmbK f ps kk[j]
    rw [at_map h, comb_cmb h f ps, pl_gt (by rfl)]
theorem cmb_out {k : Str} : ∀ (f : List Int) (ps : List (DD × DD)), (∀ q ∈ ps, gt q.1 k = 0 ∧ gt q.2 k = 0) → cmbK f ps k = 0
  | [], [], _ => rfl
  | [], _ :: _, _ => rfl
  | _ :: _, [], _ => rfl
  | c :: f, q :: ps, h => by
    show c * (gt q.1 k - gt q.2 k) + cmbK f ps k = 0
    obtain ⟨h1, h2⟩ := h q (.head _)
    rw [h1, h2, cmb_out f ps fun q hq => h q (List.mem_cons_of_mem _ hq)]
    simp
theorem exK_out {ps : List (DD × DD)} {k : Str} (h : k ∉ exK ps) : ∀ q ∈ ps, gt q.1 k = 0 ∧ gt q.2 k = 0 := fun q hq => by
  have hn : ∀ d ∈ two q, gt d k = 0 := fun d hd => gt_none fun hk => h ((srt_mem _ _).mpr (List.mem_flatMap.mpr ⟨d, List.mem_flatMap.mpr ⟨q, hq, hd⟩, hk⟩))
  exact ⟨hn q.1 (.head _), hn q.2 (List.mem_cons_of_mem _ (.head _))⟩
/-- a - b is a combination of the pairs -/
def Eqk (ps : List (DD × DD)) (a b : DD) : Prop := ∃ f : List Int, ∀ k, gt a k - gt b k = cmbK f ps k
def FacK (ps : List (DD × DD)) (a b : DD) : Option Row → Prop
  | none => ¬ Eqk ps a b
  | some f => f.length = ps.length ∧ (∀ k, gt a k - gt b k = cmbK f ps k) ∧ Mt.Bd (2 ^ 971832) f
structure PreCo (ps : List (DD × DD)) (a b : DD) : Prop where
  ok : OkP ps
  l : a.length + b.length < 64
  bd : ∀ k, (gt a k - gt b k).natAbs ≤ 2 ^ 300000
theorem fac_none_out {ps : List (DD × DD)} {a b : DD} {k : Str} (hk : k ∈ ks (pl (· - ·) a b)) (hn : k ∉ exK ps) : FacK ps a b none := fun ⟨f, hf⟩ => by
  have h1 := hf k
  rw [cmb_out f ps (exK_out hn)] at h1
  have h2 := ((pl_nrm (· - ·) a b).ks k).mp hk
  rw [pl_gt (by rfl)] at h2
  exact h2 h1
theorem fac_of {ps : List (DD × DD)} {a b : DD} (hin : ∀ k ∈ ks (pl (· - ·) a b), k ∈ exK ps) : ∀ {o : Option Row}, Fac (exR ps) ((exK ps).map (gt (pl (· - ·) a b))) (exK ps).length o → FacK ps a b o
  | none, h => fun ⟨f, hf⟩ => h ⟨f, fun j hj => by
    rw [at_map hj, pl_gt (by rfl)]
    unfold exR
    rw [comb_cmb hj]
    exact hf _⟩
  | some f, h => by
    obtain ⟨h1, h2, h3⟩ := h
    refine ⟨by rw [h1]; exact List.length_map .., fun k => ?_, h3⟩
    by_cases hk : k ∈ exK ps
    · obtain ⟨j, hj, e⟩ := List.getElem_of_mem hk
      have h4 := h2 j hj
      rw [at_map hj, pl_gt (by rfl)] at h4
      unfold exR at h4
      rw [comb_cmb hj, e] at h4
      exact h4
    · rw [cmb_out f ps (exK_out hk)]
      have h5 : gt (pl (· - ·) a b) k = 0 := gt_none fun z => hk (hin k z)
      rw [pl_gt (by rfl)] at h5
      exact h5
section
variable {X : Cx} {L : List Addr}
theorem inV_str (z : Str) (kk : List Str) : inV (.str z) (kk.map V.str) = decide (z ∈ kk) := by
  unfold inV
  rw [List.any_map]
  induction kk with
  | nil => rfl
  | cons k kk ih =>
    rw [List.any_cons, ih]
    show (k == z || _) = _
    by_cases e : k = z
    · subst e
      simp
    · have e2 : (k == z) = false := beq_eq_false_iff_ne.mpr e
      have e3 : ¬ z = k := fun q => e q.symm
      rw [e2]
      simp [e3]
theorem vl_strs {H : Hp} {vs : List V} {kk : List Str} (h : AllP H vs (kk.map fun k => Vl (.str k))) : vs = kk.map V.str := by
  have e : (kk.map fun k => Vl (.str k)) = (kk.map V.str).map Vl := by
    rw [List.map_map]
    rfl
  rw [e] at h
  exact h.vl
theorem rv_notInT {z : Str} {kk : List Str} : RV L (rIn X.K true) (Vl (.str z)) (TT' kk) (Vl (.bl (!decide (z ∈ kk)))) := rv_of fun x y H H0 s p1 ⟨a, vs, ev, ha, hv⟩ Q k => by
  have p1 : x = .str z := p1
  subst p1
  obtain rfl := vl_strs hv
  refine ⟨a, _, ev, .inr (SqT.of (s.tup ha)), rfl, ?_, ?_⟩
  · rw [List.all_map, List.all_eq_true]
    exact fun _ _ => rfl
  · rw [inV_str]
    exact k _ rfl
end
abbrev oTI : Option Row → VP
  | none => Vl .non
  | some f => Tp (f.map fun i => Vl (.int i))
section
variable {P : Program} {w : World} {K : PySem.W.Frag} {mg : Str → Option Value} {base : Heap} {C EC : Addr}
abbrev sCo : Stmt := meth 53 20
theorem scCo : FnScope ["self", "one", "other", "difference", "found", "kind"] ["self", "one", "other"] (defScope sCo) := ⟨rfl, rfl, rfl, by decide +kernel, rfl, by decide +kernel, by decide +kernel⟩
abbrev Qr := List (DD × DD) × DD × DD
abbrev spCo (EC C : Addr) : Sp := spP (α := Qr) (fun q => PreCo q.1 q.2.1 q.2.2) (fun q => [Ex EC C q.1, Ld C q.2.1, Ld C q.2.2]) (fun q => ExP (FacK q.1 q.2.1 q.2.2) oTI)
theorem ex_isI {ps : List (DD × DD)} : IsI EC (Ex EC C ps) := ins_isI
theorem c_Co (D : MDfn K EC "combination" "Exchanges.combination" sCo ["self", "one", "other"]) (T' : Bt mg) (Z : LdF K C) (ZE : ExF K EC) (cLS : MCal P w K mg base 6 C "__sub__" ["self", "other"] (spLP C (· - ·))) (cLK : PCal P w K mg base 1 C "kinds" (spLK C))
    (cVO : Cal P w K mg base 3 "vector_of" ["kinds", "load"] (spVO C)) (cFO : Cal P w K mg base 4 "factors_of" ["rows", "vector"] spFO) : MCal P w K mg base 7 EC "combination" ["self", "one", "other"] (spCo EC C) := D.cal fun f fd F => by
  refine fn_ok F scCo (fun _ _ => rfl) ?_
  rintro ⟨ps, a, b⟩ hp cdv A outer s H E B D hB hr hrt hnx
  obtain ⟨hok, hl, hbd⟩ : PreCo ps a b := hp
  have hk6 : (exK ps).length ≤ 6 := hok.k6
  obtain ⟨g, fg, Fg, hmg, hbg, hfg⟩ := cLS.ex
  refine xs_set (i := 3) (P := Ld C (pl (· - ·) a b)) (xe_op (op_own (C := C) hr Fg hbg hmg Z.sf) (rv_own (P := Ld C (pl (· - ·) a b)) (a, b) hl rfl ld_isI ld_isI fun _ _ p => p) (v 1) (v 2)) scCo.nd rfl (.inl rfl) ?_
  have hdl : (ks (pl (· - ·) a b)).length < 64 := by
    rw [ks_len]
    have := pl_len (· - ·) a b
    omega
  refine xs_when (M1 := []) (p := (· = ((ks (pl (· - ·) a b)).map fun k => !decide (k ∈ exK ps)).any id)) (xt_val (xe_callB (cr_any rfl) (rc_any (bs := (ks (pl (· - ·) a b)).map fun k => !decide (k ∈ exK ps))) (by rfl) T'.any bt_any (xa_cons ?_ xa_nil))) (fun ht => ?_) (fun ht => ?_)
  · rw [List.map_map]
    exact XLc.ls (xlcM (own := [("kind", 5)]) [5] (fun k : Str => [some (Ex EC C ps), some (Ld C a), some (Ld C b), some (Ld C (pl (· - ·) a b)), none, some (Vl (.str k))]) (ks (pl (· - ·) a b)) (fun k => Vl (.str k)) (fun k => Vl (.bl (!decide (k ∈ exK ps)))) rfl scCo.nd (xi_tup (xe_pr (P := TT' (ks (pl (· - ·) a b))) cLK (hr.mono (by omega)) Z.ik.cl (v 3) (pl (· - ·) a b) trivial rfl ld_isI fun _ _ p => p)) (blkOk_by (N := ["self", "one", "other", "difference", "found", "kind"]) (sc := defScope sCo) (by decide +kernel)) (fun _ _ h => h) (len64 hdl) (by decide)
      (fun r hr s H C cl fp => xg_name (i := 5) scCo.nd rfl (.inl rfl)) (fun k hk s H C' cl fp => xe_cmp op_notIn_seq rv_notInT (v 5) (xe_fldI (v 0) rfl ZE.cl ZE.n2) (by rfl)))
  · rw [List.any_map] at ht
    obtain ⟨k, hk, e⟩ := List.any_eq_true.mp ht.symm
    refine xs_done hrt xe_non fun v H p => ⟨none, fac_none_out hk ?_, p⟩
    simpa using e
  · rw [List.any_map] at ht
    have hin : ∀ k ∈ ks (pl (· - ·) a b), k ∈ exK ps := fun k hk => by
      have := List.any_eq_false.mp ht.symm k hk
      simpa using this
    refine xs_asgX (js := [4]) (f := Fac (exR ps) ((exK ps).map (gt (pl (· - ·) a b))) (exK ps).length) (Q := oIL) (xpw cFO (hr.mono (by omega)) (exR ps, (exK ps).map (gt (pl (· - ·) a b)), (exK ps).length) (xa_cons (xe_fldI (v 0) rfl ZE.cl ZE.n3) (xa_cons (xpw cVO (hr.mono (by omega)) (exK ps, pl (· - ·) a b) (xa_cons (xe_fldI (v 0) rfl ZE.cl ZE.n2) (xa_cons (v 3) xa_nil)) (by show (exK ps).length < 64; omega) fun _ _ p => p) xa_nil)) ?_ fun _ _ p => p) ?_
    · have hpr := exR_pre hok
      refine ⟨exR_len, exR_bd hok, hpr.num, hk6, List.length_map .., bd_of fun x hx => ?_⟩
      obtain ⟨k, _, rfl⟩ := List.mem_map.mp hx
      rw [pl_gt (by rfl)]
      exact hbd k
    · intro o ho
      refine ⟨_, xg_name (i := 4) scCo.nd rfl (.inl rfl), ?_⟩
      have hF := fac_of hin ho
      match o, hF with
      | none, hF => exact xs_done hrt (xe_if (P := ExP (FacK ps a b) oTI) (xt_cmp op_isN (rv_isN non_isN) (v 4) xe_non (nomark _)) (fun _ => XE.w xe_non fun v H p => ⟨none, hF, p⟩) (fun ht => by cases ht) rfl)
      | some f, hF => exact xs_done hrt (xe_if (P := ExP (FacK ps a b) oTI) (xt_cmp op_isN (rv_isN ls_notN) (v 4) xe_non (nomark _)) (fun ht => by cases ht) (fun _ => XE.w (xe_callTy call_tuple_of rc_tupL (by rfl) T'.tuple bt_tuple (xa_cons (v 4) xa_nil)) fun v H p => ⟨some f, hF, p⟩) rfl)
end
end Y
/-! text Zp -/
set_option Elab.async false
set_option linter.all false
set_option maxRecDepth 100000
namespace Y
open PySem PySem.Spec PyProof.Rows L2
/-- the sides of a use -/
def gsd (q : DD × DD) (t : Int) : DD := if t < 0 then q.2 else q.1
def tsd (q : DD × DD) (t : Int) : DD := if 0 < t then q.2 else q.1
abbrev Us (n : Nat) (t : Int) : VP := Tp [Vl (.int (n : Int)), Vl (.int t)]
section
variable {P : Program} {w : World} {K : PySem.W.Frag} {mg : Str → Option Value} {base : Heap} {C EC : Addr}
abbrev sGS : Stmt := meth 53 36
theorem scGS : FnScope ["self", "use", "index", "times"] ["self", "use"] (defScope sGS) := ⟨rfl, rfl, rfl, by decide +kernel, rfl, by decide +kernel, by decide +kernel⟩
abbrev sTS : Stmt := meth 53 37
theorem scTS : FnScope ["self", "use", "index", "times"] ["self", "use"] (defScope sTS) := ⟨rfl, rfl, rfl, by decide +kernel, rfl, by decide +kernel, by decide +kernel⟩
structure PreU (ps : List (DD × DD)) (n : Nat) (q : DD × DD) (t : Int) : Prop where
  ok : OkP ps
  at_ : ps[n]? = some q
  bd : t.natAbs ≤ 2 ^ 971832
abbrev Qu := List (DD × DD) × Nat × (DD × DD) × Int
abbrev spGS (EC C : Addr) (sd : DD × DD → Int → DD) : Sp := spP (α := Qu) (fun q => PreU q.1 q.2.1 q.2.2.1 q.2.2.2) (fun q => [Ex EC C q.1, Us q.2.1 q.2.2.2]) (fun q => Ld C (ti (sd q.2.2.1 q.2.2.2) (q.2.2.2.natAbs : Int)))
theorem sd_mul {d : DD} (h : Sd d) {t : Int} (ht : t.natAbs ≤ 2 ^ 971832) : ∀ p ∈ d, CMulW p.2 (t.natAbs : Int) := fun p hp => mulOk (a := 20) (b := 971832) (by
  have h1 := h.m p hp
  have h2 := h.ge p.1
  have h3 : gt d p.1 = p.2 := by
    unfold gt
    rw [gv_of_mem h.nr.nd hp]
    rfl
  rw [h3] at h2
  show p.2.natAbs ≤ 1048576
  omega) (by simpa using ht) (by decide)
theorem c_GS (D : MDfn K EC "given_side" "Exchanges.given_side" sGS ["self", "use"]) (T' : Bt mg) (Z : LdF K C) (ZE : ExF K EC) (cLM : MCal P w K mg base 6 C "__mul__" ["self", "number"] (spLM C)) (cLR : MCal P w K mg base 7 C "__rmul__" ["self", "number"] (spLM C)) : MCal P w K mg base 8 EC "given_side" ["self", "use"] (spGS EC C gsd) := D.cal fun f fd F => by
  refine fn_ok F scGS (fun _ _ => rfl) ?_
  rintro ⟨ps, n, q, t⟩ hp cdv A outer s H E B D hB hr hrt hnx
  obtain ⟨hok, hat, hbd⟩ : PreU ps n q t := hp
  obtain ⟨s1, s2⟩ := hok.sd q (List.mem_of_getElem? hat)
  obtain ⟨g, fg, Fg, hmg, hbg, hfg⟩ := cLM.ex
  obtain ⟨r, fr, Fr, hmr, hbr, hfr⟩ := cLR.ex
  have hPr : (ps.map (Pr C))[n]? = some (Pr C q) := by rw [List.getElem?_map, hat]; rfl
  refine xs_asg (js := [2, 3]) (v 1) (xg_tup rfl (xgs_cons (xg_name (i := 2) scGS.nd rfl (.inl rfl)) (xgs_cons (xg_name (i := 3) scGS.nd rfl (.inl rfl)) xgs_nil))) ?_
  by_cases h0 : t < 0
  · have e1 : gsd q t = q.2 := if_pos h0
    refine xs_done hrt (xe_op (op_mulR (C := C) hr Fr hbr hmg hmr Z.sf Z.s2) (rv_ownR (P := Ld C (ti (gsd q t) (t.natAbs : Int))) (gsd q t, (t.natAbs : Int)) ⟨by rw [e1]; exact s2.l, by rw [e1]; exact sd_mul s2 hbd⟩ rfl ld_isI fun _ _ p => p) (xe_callB call_abs rc_abs (by rfl) T'.abs PyProof.Rows.boot_abs (xa_cons (v 3) xa_nil)) (xe_ix ix_tup (fun _ _ => rfl) (rv_ixT (n := 1) (P := Ld C (gsd q t)) (by rw [e1]; rfl)) (xe_ix ix_tup (fun _ _ => rfl) (rv_ixT (n := n) (P := Pr C q) hPr) (xe_fldI (v 0) rfl ZE.cl ZE.n1) (v 2)) (XE.w (xe_callTy call_int1 rc_intB (by rfl) T'.int PyProof.Rows.boot_int (xa_cons (xe_cmp op_lt (rv_i0 (i := t) (j := 0)) (v 3) xe_int (nomark _)) xa_nil)) fun v H p => ?_)))
    rw [decide_eq_true h0] at p
    exact p
  · have e1 : gsd q t = q.1 := if_neg h0
    refine xs_done hrt (xe_op (op_mulR (C := C) hr Fr hbr hmg hmr Z.sf Z.s2) (rv_ownR (P := Ld C (ti (gsd q t) (t.natAbs : Int))) (gsd q t, (t.natAbs : Int)) ⟨by rw [e1]; exact s1.l, by rw [e1]; exact sd_mul s1 hbd⟩ rfl ld_isI fun _ _ p => p) (xe_callB call_abs rc_abs (by rfl) T'.abs PyProof.Rows.boot_abs (xa_cons (v 3) xa_nil)) (xe_ix ix_tup (fun _ _ => rfl) (rv_ixT (n := 0) (P := Ld C (gsd q t)) (by rw [e1]; rfl)) (xe_ix ix_tup (fun _ _ => rfl) (rv_ixT (n := n) (P := Pr C q) hPr) (xe_fldI (v 0) rfl ZE.cl ZE.n1) (v 2)) (XE.w (xe_callTy call_int1 rc_intB (by rfl) T'.int PyProof.Rows.boot_int (xa_cons (xe_cmp op_lt (rv_i0 (i := t) (j := 0)) (v 3) xe_int (nomark _)) xa_nil)) fun v H p => ?_)))
    rw [decide_eq_false h0] at p
    exact p
theorem c_TS (D : MDfn K EC "taken_side" "Exchanges.taken_side" sTS ["self", "use"]) (T' : Bt mg) (Z : LdF K C) (ZE : ExF K EC) (cLM : MCal P w K mg base 6 C "__mul__" ["self", "number"] (spLM C)) (cLR : MCal P w K mg base 7 C "__rmul__" ["self", "number"] (spLM C)) : MCal P w K mg base 8 EC "taken_side" ["self", "use"] (spGS EC C tsd) := D.cal fun f fd F => by
  refine fn_ok F scTS (fun _ _ => rfl) ?_
  rintro ⟨ps, n, q, t⟩ hp cdv A outer s H E B D hB hr hrt hnx
  obtain ⟨hok, hat, hbd⟩ : PreU ps n q t := hp
  obtain ⟨s1, s2⟩ := hok.sd q (List.mem_of_getElem? hat)
  obtain ⟨g, fg, Fg, hmg, hbg, hfg⟩ := cLM.ex
  obtain ⟨r, fr, Fr, hmr, hbr, hfr⟩ := cLR.ex
  have hPr : (ps.map (Pr C))[n]? = some (Pr C q) := by rw [List.getElem?_map, hat]; rfl
  refine xs_asg (js := [2, 3]) (v 1) (xg_tup rfl (xgs_cons (xg_name (i := 2) scTS.nd rfl (.inl rfl)) (xgs_cons (xg_name (i := 3) scTS.nd rfl (.inl rfl)) xgs_nil))) ?_
  by_cases h0 : 0 < t
  · have e1 : tsd q t = q.2 := if_pos h0
    refine xs_done hrt (xe_op (op_mulR (C := C) hr Fr hbr hmg hmr Z.sf Z.s2) (rv_ownR (P := Ld C (ti (tsd q t) (t.natAbs : Int))) (tsd q t, (t.natAbs : Int)) ⟨by rw [e1]; exact s2.l, by rw [e1]; exact sd_mul s2 hbd⟩ rfl ld_isI fun _ _ p => p) (xe_callB call_abs rc_abs (by rfl) T'.abs PyProof.Rows.boot_abs (xa_cons (v 3) xa_nil)) (xe_ix ix_tup (fun _ _ => rfl) (rv_ixT (n := 1) (P := Ld C (tsd q t)) (by rw [e1]; rfl)) (xe_ix ix_tup (fun _ _ => rfl) (rv_ixT (n := n) (P := Pr C q) hPr) (xe_fldI (v 0) rfl ZE.cl ZE.n1) (v 2)) (XE.w (xe_callTy call_int1 rc_intB (by rfl) T'.int PyProof.Rows.boot_int (xa_cons (xe_cmp op_gt (rv_i0 (i := t) (j := 0)) (v 3) xe_int (nomark _)) xa_nil)) fun v H p => ?_)))
    rw [decide_eq_true h0] at p
    exact p
  · have e1 : tsd q t = q.1 := if_neg h0
    refine xs_done hrt (xe_op (op_mulR (C := C) hr Fr hbr hmg hmr Z.sf Z.s2) (rv_ownR (P := Ld C (ti (tsd q t) (t.natAbs : Int))) (tsd q t, (t.natAbs : Int)) ⟨by rw [e1]; exact s1.l, by rw [e1]; exact sd_mul s1 hbd⟩ rfl ld_isI fun _ _ p => p) (xe_callB call_abs rc_abs (by rfl) T'.abs PyProof.Rows.boot_abs (xa_cons (v 3) xa_nil)) (xe_ix ix_tup (fun _ _ => rfl) (rv_ixT (n := 0) (P := Ld C (tsd q t)) (by rw [e1]; rfl)) (xe_ix ix_tup (fun _ _ => rfl) (rv_ixT (n := n) (P := Pr C q) hPr) (xe_fldI (v 0) rfl ZE.cl ZE.n1) (v 2)) (XE.w (xe_callTy call_int1 rc_intB (by rfl) T'.int PyProof.Rows.boot_int (xa_cons (xe_cmp op_gt (rv_i0 (i := t) (j := 0)) (v 3) xe_int (nomark _)) xa_nil)) fun v H p => ?_)))
    rw [decide_eq_false h0] at p
    exact p
/-! is_use -/
abbrev sIU : Stmt := meth 53 38
theorem scIU : FnScope ["self", "value", "part"] ["self", "value"] (defScope sIU) := ⟨rfl, rfl, rfl, by decide +kernel, rfl, by decide +kernel, by decide +kernel⟩
abbrev spIU (EC C : Addr) : Sp := spP (α := List (DD × DD) × Nat × Int) (fun q => q.2.1 < q.1.length ∧ q.2.2 ≠ 0) (fun q => [Ex EC C q.1, Us q.2.1 q.2.2]) (fun q => Vl (.bl true))
theorem c_IU (D : MDfn K EC "is_use" "Exchanges.is_use" sIU ["self", "value"]) (T' : Bt mg) (ZE : ExF K EC) (cII : Cal P w K mg base 1 "is_integer" ["value"] spII) : MCal P w K mg base 2 EC "is_use" ["self", "value"] (spIU EC C) := D.cal fun f fd F => by
  refine fn_ok F scIU (fun _ _ => rfl) ?_
  rintro ⟨ps, n, t⟩ ⟨hn, ht0⟩ cdv A outer s H E B D hB hr hrt hnx
  have hn : n < ps.length := hn
  have ht0 : t ≠ 0 := ht0
  refine xs_when (p := (· = false)) (XT.w (XW.xt (xw_or (xt_notk (xt_val (xe_callB call_isi (rc_isi (.ty "tuple") ty_tup kit_same) (by rfl) T'.isinstance bt_isi (xa_cons (v 1) (xa_cons (xe_bt T'.tuple bt_tuple rfl) xa_nil))))) fun _ => xw_or (xt_cmp op_ne rv_neI (xe_callB call_len_seq rc_lenT (by rfl) T'.len bt_len (xa_cons (v 1) xa_nil)) xe_int (nomark _)) fun _ => xw_one (xt_notk (xt_val (xe_callB (cr_all rfl) (rc_all (bs := [(n : Int), t].map fun _ => true)) (by rfl) T'.all bt_all (xa_cons ?_ xa_nil)))))) fun b e => ?_) (fun ht => by cases ht) (fun _ => ?_)
  · rw [List.map_map]
    exact XLc.ls (xlcM (own := [("part", 2)]) [2] (fun i : Int => [some (Ex EC C ps), some (Us n t), some (Vl (.int i))]) [(n : Int), t] (fun i => Vl (.int i)) (fun _ => Vl (.bl true)) rfl scIU.nd (xi_tup (v 1)) (blkOk_by (N := ["self", "value", "part"]) (sc := defScope sIU) (by decide +kernel)) (fun _ _ h => h) (len64 (by decide : 2 < 64)) (by decide)
        (fun r hr s H C cl fp => xg_name (i := 2) scIU.nd rfl (.inl rfl)) (fun i hd s H C' cl fp => xpw cII hr i (xa_cons (v 2) xa_nil) trivial fun _ _ p => p))
  · rw [e]
    rfl
  · refine xs_done hrt (XE.w (xe_and (k := true) (k' := true) (XE.w (xe_chain op_le op_lt (rv_i0 (i := 0) (j := (n : Int))) (rv_i0 (i := (n : Int)) (j := ((ps.map (Pr C)).length : Int))) xe_int (xe_ix ix_tup (fun _ _ => rfl) (rv_ixT (n := 0) (P := Vl (.int (n : Int))) rfl) (v 1) xe_int) (xe_callB call_len_seq rc_lenT (by rfl) T'.len bt_len (xa_cons (xe_fldI (v 0) rfl ZE.cl ZE.n1) xa_nil))) fun v H p => ?_) fun _ => xe_one (XE.w (xe_cmp op_ne (rv_neI (i := t) (j := 0)) (xe_ix ix_tup (fun _ _ => rfl) (rv_ixT (n := 1) (P := Vl (.int t)) rfl) (v 1) xe_int) xe_int (nomark _)) fun v H p => ?_)) fun v H p => p)
    · have p : v = .bl (decide ((0 : Int) ≤ (n : Int)) && decide ((n : Int) < ((ps.map (Pr C)).length : Int))) := p
      rw [List.length_map, decide_eq_true (by omega : (0 : Int) ≤ (n : Int)), decide_eq_true (by omega : (n : Int) < (ps.length : Int))] at p
      exact p
    · have e : (t != 0) = true := by simpa using ht0
      rw [e] at p
      exact p
end
end Y
/-! text Zq -/
set_option Elab.async false
set_option linter.all false
set_option maxRecDepth 100000
namespace Y
open PySem PySem.Spec PyProof.Rows L2
/-! ### Exchanges.loan -/
theorem xf_no {EC C : Addr} {ps : List (DD × DD)} {m : Str} (h : m ∉ ([("own_pairs" : Str), ("own_kinds" : Str), ("rows" : Str), ("own_basis" : Str), ("pivots" : Str)] : List Str)) : InsP EC m (Ex EC C ps) := ins_insP h
def nzs (f : List Int) : List (Nat × Int) := ((List.range f.length).zip f).filter fun u => u.2 != 0
def pq (ps : List (DD × DD)) (n : Nat) : DD × DD := (ps[n]?).getD ([], [])
def gvn (ps : List (DD × DD)) (u : Nat × Int) : DD := ti (gsd (pq ps u.1) u.2) (u.2.natAbs : Int)
def tkn (ps : List (DD × DD)) (u : Nat × Int) : DD := ti (tsd (pq ps u.1) u.2) (u.2.natAbs : Int)
def bor (ps : List (DD × DD)) (f : List Int) : DD := ttl ((nzs f).map (gvn ps))
structure PreLo (ps : List (DD × DD)) (a b : DD) : Prop where
  co : PreCo ps a b
  na : (ng a).isEmpty = true
  nb : (ng b).isEmpty = true
  la : a.length ≤ 12
  lb : b.length ≤ 12
  ra : Nrm a
  rb : Nrm b
theorem nzs_at {ps : List (DD × DD)} {f : List Int} (hl : f.length = ps.length) {u : Nat × Int} (hu : u ∈ nzs f) : ps[u.1]? = some (pq ps u.1) ∧ u.2 ∈ f ∧ u.2 ≠ 0 ∧ u.1 < ps.length := by
  obtain ⟨h1, h2⟩ := List.mem_filter.mp hu
  have h3 := List.of_mem_zip h1
  have h4 : u.1 < ps.length := by rw [← hl]; exact List.mem_range.mp h3.1
  refine ⟨?_, h3.2, by simpa using h2, h4⟩
  unfold pq
  rw [List.getElem?_eq_getElem h4]
  rfl
theorem nzs_len (f : List Int) : (nzs f).length ≤ f.length := by
  refine Nat.le_trans (List.length_filter_le ..) ?_
  rw [List.length_zip, List.length_range]
  omega
theorem sum_le {l : List Nat} {n : Nat} (h : ∀ x ∈ l, x ≤ n) : l.sum ≤ n * l.length := by
  induction l with
  | nil => exact Nat.zero_le _
  | cons x l ih =>
    have h1 := h x (.head _)
    have h2 := ih fun y hy => h y (List.mem_cons_of_mem _ hy)
    rw [List.sum_cons, List.length_cons, Nat.mul_succ]
    omega
theorem gsd_or (q : DD × DD) (t : Int) : gsd q t = q.1 ∨ gsd q t = q.2 := by
  unfold gsd
  split
  · exact .inr rfl
  · exact .inl rfl
theorem tsd_or (q : DD × DD) (t : Int) : tsd q t = q.1 ∨ tsd q t = q.2 := by
  unfold tsd
  split
  · exact .inr rfl
  · exact .inl rfl
theorem gvn_len {ps : List (DD × DD)} (h : OkP ps) {f : List Int} (hl : f.length = ps.length) {u : Nat × Int} (hu : u ∈ nzs f) : (gvn ps u).length ≤ 6 := by
  obtain ⟨h1, _, _, _⟩ := nzs_at hl hu
  obtain ⟨a, b⟩ := h.s6 _ (List.mem_of_getElem? h1)
  refine Nat.le_trans (ti_len _ _) ?_
  rcases gsd_or (pq ps u.1) u.2 with e | e <;> rw [e] <;> assumption
theorem bor_sum {ps : List (DD × DD)} (h : OkP ps) {f : List Int} (hl : f.length = ps.length) : (((nzs f).map (gvn ps)).map List.length).sum < 64 := by
  have h1 := sum_le (l := ((nzs f).map (gvn ps)).map List.length) (n := 6) fun x hx => by
    obtain ⟨d, hd, rfl⟩ := List.mem_map.mp hx
    obtain ⟨u, hu, rfl⟩ := List.mem_map.mp hd
    exact gvn_len h hl hu
  have h2 := nzs_len f
  have h3 := h.n6
  rw [List.length_map, List.length_map] at h1
  omega
section
variable {P : Program} {w : World} {K : PySem.W.Frag} {mg : Str → Option Value} {base : Heap} {C EC : Addr}
abbrev sLn : Stmt := meth 53 35
abbrev nLn : List Str := ["self", "one", "other", "combination", "uses", "given", "index", "times", "use"]
theorem scLn : FnScope nLn ["self", "one", "other"] (defScope sLn) := ⟨rfl, rfl, rfl, by decide +kernel, rfl, by decide +kernel, by decide +kernel⟩
abbrev usP (f : List Int) : List VP := (nzs f).map fun u => Us u.1 u.2
abbrev spLn (EC C : Addr) : Sp := spY (α := Qr) (β := Row) (fun q => PreLo q.1 q.2.1 q.2.2) (fun q => [Ex EC C q.1, Ld C q.2.1, Ld C q.2.2]) (fun q => ExP (fun _ : Unit => ¬ Eqk q.1 q.2.1 q.2.2) (fun _ => Vl .non)) (fun q f => FacK q.1 q.2.1 q.2.2 (some f)) (fun q f c => Tp [Ld C (bor q.1 f), Rf c]) (fun q f => CLs (usP f))
theorem c_Ln (D : MDfn K EC "loan" "Exchanges.loan" sLn ["self", "one", "other"]) (T' : Bt mg) (Z : LdF K C) (ZE : ExF K EC) (hL : mg "Load" = some (.ref C)) (cCD : Cal P w K mg base 8 "check_debts" ["one", "other"] (spCD C)) (cCo : MCal P w K mg base 7 EC "combination" ["self", "one", "other"] (spCo EC C))
    (cGS : MCal P w K mg base 8 EC "given_side" ["self", "use"] (spGS EC C gsd)) (cLT : SCal P w K mg base 7 C "total" (spLT C)) : MCal P w K mg base 9 EC "loan" ["self", "one", "other"] (spLn EC C) := D.cal fun f fd F => by
  refine fn_okY F scLn (fun _ _ => rfl) ?_
  rintro ⟨ps, a, b⟩ hp cdv A outer s H E B D hB hr hr0 hrq
  obtain ⟨hco, hna, hnb, -, -, -, -⟩ : PreLo ps a b := hp
  have hok := hco.ok
  have hl := hco.l
  have hn6 := hok.n6
  refine xs_expr (P := Vl .non) (M1 := []) (xpw cCD hr (a, b) (xa_cons (v 1) (xa_cons (v 2) xa_nil)) (fun d hd => by
    rcases List.mem_cons.mp hd with e | hd
    · rw [e]; exact ⟨by show a.length < 64; omega, hna⟩
    · rw [List.mem_singleton.mp hd]; exact ⟨by show b.length < 64; omega, hnb⟩) fun _ _ p => p) ?_
  refine xs_asgX (js := [3]) (f := FacK ps a b) (Q := oTI) (xe_mt cCo (hr.mono (by omega)) ZE.cl (v 0) (xf_no (by decide +kernel)) (ps, a, b) (xa_cons (v 1) (xa_cons (v 2) xa_nil)) rfl hco fun _ _ p => p) ?_
  intro o ho
  refine ⟨_, xg_name (i := 3) scLn.nd rfl (.inl rfl), ?_⟩
  match o, ho with
  | none, ho => exact xs_when (xt_cmp op_isN (rv_isN non_isN) (v 3) xe_non (nomark _)) (fun _ => xs_ret xe_non fun v H h => hr0 v H (by
      obtain ⟨H0, g, p, m⟩ := h
      exact ⟨H0, g, ⟨(), ho, p⟩, m⟩)) (fun ht => by cases ht)
  | some f, ho =>
    obtain ⟨hfl, hfe, hfb⟩ := id ho
    refine xs_when (xt_cmp op_isN (rv_isN tp_notN) (v 3) xe_non (nomark _)) (fun ht => by cases ht) (fun _ => ?_)
    refine xs_lcm (i := 4) (C := CLs (usP f)) (M' := []) (xlcF (own := [("index", 6), ("times", 7)]) [6, 7] (fun u : Nat × Int => [some (Ex EC C ps), some (Ld C a), some (Ld C b), some (oTI (some f)), none, none, some (Vl (.int (u.1 : Int))), some (Vl (.int u.2)), none]) ((List.range f.length).zip f) (fun u => Tp [Vl (.int (u.1 : Nat)), Vl (.int u.2)]) (fun u => Us u.1 u.2) (fun u => u.2 != 0) rfl scLn.nd ?_ (blkOk_by (N := nLn) (sc := defScope sLn) (by decide +kernel)) (fun _ _ h => h) (len64 (by rw [List.length_zip, List.length_range]; omega)) (by decide)
      (fun u hu s H C cl fp => xg_tup rfl (xgs_cons (xg_name (i := 6) scLn.nd rfl (.inl rfl)) (xgs_cons (xg_name (i := 7) scLn.nd rfl (.inl rfl)) xgs_nil))) (fun u hu s H C cl fp => xts_one (xt_cmp op_ne rv_neI (v 7) xe_int (nomark _))) (fun u hu _ s H C cl fp => xe_tup (xa_cons (v 6) (xa_cons (v 7) xa_nil)) (by rw [sizeLine_eq]; exact (by decide : 2 ≤ 16777216)))) rfl rfl (fun q => ?_) rfl
    · rw [← enum_pairs (fun i : Int => Vl (.int i))]
      exact xi_enumT rfl T'.enumerate (v 3)
    refine xs_named (M := []) fun vs => ?_
    refine xs_lc (i := 5) (Ps := ((nzs f).map (gvn ps)).map (Ld C)) (M' := [(q, CLx vs (usP f))]) ?_ rfl rfl ?_ rfl
    · rw [List.map_map]
      refine xlcM (own := [("use", 8)]) [8] (fun u : Nat × Int => [some (Ex EC C ps), some (Ld C a), some (Ld C b), some (oTI (some f)), some (Rf q), none, none, none, some (Us u.1 u.2)]) (nzs f) (fun u => Us u.1 u.2) (fun u => Ld C (gvn ps u)) rfl scLn.nd (xi_cell (v 4) (.head _) rfl) (blkOk_by (N := nLn) (sc := defScope sLn) (by decide +kernel)) (fun _ _ h => h) (len64 (by have := nzs_len f; omega)) (by decide)
        (fun u hu s H C cl fp => xg_name (i := 8) scLn.nd rfl (.inl rfl)) (fun u hu s H C' cl fp => ?_)
      obtain ⟨k1, k2, k3, k4⟩ := nzs_at hfl hu
      exact xe_mt (Mi := fun _ => []) (Mo := fun _ => []) (Mf := [(q, CLx vs (usP f))]) cGS hr ZE.cl (v 0) (xf_no (by decide +kernel)) (ps, u.1, pq ps u.1, u.2) (xa_cons (v 8) xa_nil) rfl ⟨hok, k1, bd_mem hfb k2⟩ fun _ _ p => p
    refine xs_retM (P := Tp [Ld C (bor ps f), Rf q]) (C2 := CLs (usP f)) hB (xe_tup (xa_cons (P := Ld C (bor ps f)) (M1 := [(q, CLx vs (usP f))]) ?_ (xa_cons (v 4) xa_nil)) (by rw [sizeLine_eq]; exact (by decide : 2 ≤ 16777216))) (fun o H h => ⟨vs, h.1, h.2⟩) fun v H hb h => hrq f v q H ho hb h
    refine xe_sm (R := fun ds => Ld C (ttl ds)) (As := fun ds => [Tp (ds.map (Ld C))]) cLT (hr.mono (by omega)) (xe_gl hL rfl) (v 5) ((nzs f).map (gvn ps)) (bor_sum hok hfl) rfl ?_
    have := nzs_len f
    rw [List.length_map, List.length_map, sizeLine_eq]
    omega
end
end Y
/-! text Zr -/
set_option Elab.async false
set_option linter.all false
set_option maxRecDepth 100000
namespace Y
open PySem PySem.Spec PyProof.Rows L2
/-! ### the hand -/
theorem nodup_le {l m : List Str} (h : l.Nodup) (hs : ∀ x ∈ l, x ∈ m) : l.length ≤ m.length := by
  induction l generalizing m with
  | nil => exact Nat.zero_le _
  | cons x l ih =>
    have hx := hs x (.head _)
    have hn := List.nodup_cons.mp h
    have h1 := ih (m := m.erase x) hn.2 fun y hy => (List.mem_erase_of_ne (fun e => hn.1 (by rw [← e]; exact hy))).mpr (hs y (List.mem_cons_of_mem _ hy))
    rw [List.length_erase_of_mem hx] at h1
    have : 0 < m.length := List.length_pos_of_mem hx
    rw [List.length_cons]
    omega
def ls (φ : Nat × Int → Int) (us : List (Nat × Int)) : Int := (us.map φ).sum
theorem ls_cons (φ : Nat × Int → Int) (u : Nat × Int) (us : List (Nat × Int)) : ls φ (u :: us) = φ u + ls φ us := by
  unfold ls
  rw [List.map_cons, List.sum_cons]
theorem ls_app (φ : Nat × Int → Int) (us vs : List (Nat × Int)) : ls φ (us ++ vs) = ls φ us + ls φ vs := by
  unfold ls
  rw [List.map_append, List.sum_append]
theorem ls_nn {φ : Nat × Int → Int} {us : List (Nat × Int)} (h : ∀ u ∈ us, 0 ≤ φ u) : 0 ≤ ls φ us := by
  induction us with
  | nil => exact Int.le_refl _
  | cons u us ih =>
    rw [ls_cons]
    have := h u (.head _)
    have := ih fun v hv => h v (List.mem_cons_of_mem _ hv)
    omega
theorem ls_sub {φ ψ : Nat × Int → Int} {us : List (Nat × Int)} : ls φ us - ls ψ us = ls (fun u => φ u - ψ u) us := by
  induction us with
  | nil => rfl
  | cons u us ih =>
    rw [ls_cons, ls_cons, ls_cons, ← ih]
    omega
/-- a use's difference, given, got -/
def dif (ps : List (DD × DD)) (k : Str) (u : Nat × Int) : Int := u.2 * (gt (pq ps u.1).1 k - gt (pq ps u.1).2 k)
def gv_ (ps : List (DD × DD)) (k : Str) (u : Nat × Int) : Int := gt (gvn ps u) k
def tk_ (ps : List (DD × DD)) (k : Str) (u : Nat × Int) : Int := gt (tkn ps u) k
theorem ls_filter (ps : List (DD × DD)) (k : Str) (us : List (Nat × Int)) : ls (dif ps k) (us.filter fun u => u.2 != 0) = ls (dif ps k) us := by
  induction us with
  | nil => rfl
  | cons u us ih =>
    rw [List.filter_cons]
    split
    · rw [ls_cons, ls_cons, ih]
    · rename_i h
      have h : u.2 = 0 := by simpa using h
      rw [ls_cons, ih]
      unfold dif
      rw [h]
      omega
theorem ls_zip (ps : List (DD × DD)) (k : Str) : ∀ (f : List Int) (qs : List (DD × DD)) (m : Nat), f.length = qs.length → (∀ i, pq ps (m + i) = (qs[i]?).getD ([], [])) → ls (dif ps k) ((List.range' m f.length).zip f) = cmbK f qs k
  | [], [], _, _, _ => rfl
  | [], _ :: _, _, h, _ => by simp at h
  | _ :: _, [], _, h, _ => by simp at h
  | c :: f, q :: qs, m, h, hp => by
    rw [List.length_cons, List.range'_succ, List.zip_cons_cons, ls_cons, ls_zip ps k f qs (m + 1) (by simpa using h) fun i => by
      have := hp (i + 1)
      rw [show m + 1 + i = m + (i + 1) by omega, this]
      rfl]
    have h0 : pq ps m = q := hp 0
    show dif ps k (m, c) + _ = _
    unfold dif
    rw [h0]
    rfl
theorem dif_nzs {ps : List (DD × DD)} {f : List Int} (h : f.length = ps.length) (k : Str) : ls (dif ps k) (nzs f) = cmbK f ps k := by
  unfold nzs
  rw [ls_filter, List.range_eq_range']
  exact ls_zip ps k f ps 0 h fun i => by
    unfold pq
    rw [Nat.zero_add]
theorem gsd_P {p : DD → Prop} {q : DD × DD} {t : Int} (h1 : p q.1) (h2 : p q.2) : p (gsd q t) := by
  rcases gsd_or q t with e | e <;> rw [e] <;> assumption
theorem tsd_P {p : DD → Prop} {q : DD × DD} {t : Int} (h1 : p q.1) (h2 : p q.2) : p (tsd q t) := by
  rcases tsd_or q t with e | e <;> rw [e] <;> assumption
/-- the values of a use -/
theorem use_vals {ps : List (DD × DD)} (hok : OkP ps) {f : List Int} (hl : f.length = ps.length) {u : Nat × Int} (hu : u ∈ nzs f) (k : Str) : 0 ≤ gv_ ps k u ∧ 0 ≤ tk_ ps k u ∧ dif ps k u = gv_ ps k u - tk_ ps k u := by
  obtain ⟨h1, _, _, _⟩ := nzs_at hl hu
  obtain ⟨s1, s2⟩ := hok.sd _ (List.mem_of_getElem? h1)
  have a1 := s1.ge k
  have a2 := s2.ge k
  have eg : gv_ ps k u = gt (gsd (pq ps u.1) u.2) k * (u.2.natAbs : Int) := ti_gt (gsd_P (p := fun d => (ks d).Nodup) s1.nr.nd s2.nr.nd) _ _
  have et : tk_ ps k u = gt (tsd (pq ps u.1) u.2) k * (u.2.natAbs : Int) := ti_gt (tsd_P (p := fun d => (ks d).Nodup) s1.nr.nd s2.nr.nd) _ _
  have ha : (0 : Int) ≤ (u.2.natAbs : Int) := Int.natCast_nonneg _
  refine ⟨?_, ?_, ?_⟩
  · rw [eg]
    exact gsd_P (p := fun d => 0 ≤ gt d k * (u.2.natAbs : Int)) (Int.mul_nonneg a1 ha) (Int.mul_nonneg a2 ha)
  · rw [et]
    exact tsd_P (p := fun d => 0 ≤ gt d k * (u.2.natAbs : Int)) (Int.mul_nonneg a1 ha) (Int.mul_nonneg a2 ha)
  · rw [eg, et]
    unfold dif gsd tsd
    by_cases hn : u.2 < 0
    · rw [if_pos hn, if_neg (by omega)]
      have e : (u.2.natAbs : Int) = -u.2 := by omega
      rw [e, Int.mul_neg, Int.mul_neg, Int.mul_sub, Int.mul_comm u.2, Int.mul_comm u.2]
      omega
    · by_cases hp : 0 < u.2
      · rw [if_neg hn, if_pos hp]
        have e : (u.2.natAbs : Int) = u.2 := by omega
        rw [e, Int.mul_sub, Int.mul_comm u.2, Int.mul_comm u.2]
      · have e : u.2 = 0 := by omega
        rw [if_neg hn, if_neg hp, e]
        simp
theorem ttl_gt (k : Str) : ∀ (ds : List DD), gt (ttl ds) k = (ds.map fun d => gt d k).sum := by
  have h : ∀ (ds : List DD) (a : DD), gt (ds.foldl (pl (· + ·)) a) k = gt a k + (ds.map fun d => gt d k).sum := by
    intro ds
    induction ds with
    | nil => exact fun a => by simp
    | cons d ds ih =>
      intro a
      rw [List.foldl_cons, ih, pl_gt (by rfl), List.map_cons, List.sum_cons]
      omega
  intro ds
  unfold ttl
  rw [h, nz_gt]
  show 0 + _ = _
  omega
theorem bor_gt (ps : List (DD × DD)) (f : List Int) (k : Str) : gt (bor ps f) k = ls (gv_ ps k) (nzs f) := by
  unfold bor
  rw [ttl_gt, List.map_map]
  rfl
/-- the hand behind i uses -/
def hnd (ps : List (DD × DD)) (a : DD) (f : List Int) (i : Nat) : DD := ((nzs f).take i).foldl (fun h u => pl (· + ·) (pl (· - ·) h (gvn ps u)) (tkn ps u)) (pl (· + ·) a (bor ps f))
theorem hnd_nrm (ps : List (DD × DD)) (a : DD) (f : List Int) (i : Nat) : Nrm (hnd ps a f i) := by
  unfold hnd
  have : ∀ (us : List (Nat × Int)) (h : DD), Nrm h → Nrm (us.foldl (fun h u => pl (· + ·) (pl (· - ·) h (gvn ps u)) (tkn ps u)) h) := by
    intro us
    induction us with
    | nil => exact fun _ h => h
    | cons u us ih => exact fun h _ => ih _ (pl_nrm _ _ _)
  exact this _ _ (pl_nrm _ _ _)
theorem hnd_step {ps : List (DD × DD)} {a : DD} {f : List Int} {i : Nat} {u : Nat × Int} (h : (nzs f)[i]? = some u) : hnd ps a f (i + 1) = pl (· + ·) (pl (· - ·) (hnd ps a f i) (gvn ps u)) (tkn ps u) := by
  unfold hnd
  rw [List.take_add_one, h, Option.toList_some, List.foldl_append]
  rfl
theorem hnd_gt (ps : List (DD × DD)) (a : DD) (f : List Int) (i : Nat) (k : Str) : gt (hnd ps a f i) k = gt a k + ls (gv_ ps k) (nzs f) - ls (gv_ ps k) ((nzs f).take i) + ls (tk_ ps k) ((nzs f).take i) := by
  unfold hnd
  have : ∀ (us : List (Nat × Int)) (h : DD), gt (us.foldl (fun h u => pl (· + ·) (pl (· - ·) h (gvn ps u)) (tkn ps u)) h) k = gt h k - ls (gv_ ps k) us + ls (tk_ ps k) us := by
    intro us
    induction us with
    | nil =>
      intro h
      show gt h k = gt h k - 0 + 0
      omega
    | cons u us ih =>
      intro h
      rw [List.foldl_cons, ih, pl_gt (by rfl), pl_gt (by rfl), ls_cons, ls_cons]
      show gt h k - gv_ ps k u + tk_ ps k u - _ + _ = _
      omega
  rw [this, pl_gt (by rfl), bor_gt]
section
variable {ps : List (DD × DD)} {a b : DD} {f : List Int}
theorem hnd_ge (hok : OkP ps) (hl : f.length = ps.length) (ha : ∀ k, 0 ≤ gt a k) {i : Nat} {u : Nat × Int} (hu : (nzs f)[i]? = some u) (k : Str) : gt (gvn ps u) k ≤ gt (hnd ps a f i) k := by
  rw [hnd_gt]
  have e1 : nzs f = (nzs f).take i ++ (nzs f).drop i := (List.take_append_drop i _).symm
  obtain ⟨hlt, he⟩ := List.getElem?_eq_some_iff.mp hu
  have e2 : (nzs f).drop i = u :: (nzs f).drop (i + 1) := by rw [List.drop_eq_getElem_cons hlt, he]
  have e3 : ls (gv_ ps k) (nzs f) = ls (gv_ ps k) ((nzs f).take i) + (gv_ ps k u + ls (gv_ ps k) ((nzs f).drop (i + 1))) := by
    conv => lhs; rw [e1, ls_app, e2, ls_cons]
  rw [e3]
  have h1 := ha k
  have h2 := ls_nn (φ := tk_ ps k) (us := (nzs f).take i) fun v hv => (use_vals hok hl (List.mem_of_mem_take hv) k).2.1
  have h3 := ls_nn (φ := gv_ ps k) (us := (nzs f).drop (i + 1)) fun v hv => (use_vals hok hl (List.mem_of_mem_drop hv) k).1
  show gv_ ps k u ≤ _
  omega
theorem hnd_end (hok : OkP ps) (hl : f.length = ps.length) (hf : ∀ k, gt a k - gt b k = cmbK f ps k) (k : Str) : gt (hnd ps a f (nzs f).length) k = gt (pl (· + ·) b (bor ps f)) k := by
  rw [hnd_gt, pl_gt (by rfl), bor_gt, List.take_length]
  have h1 := hf k
  rw [← dif_nzs hl] at h1
  have h2 : ls (dif ps k) (nzs f) = ls (gv_ ps k) (nzs f) - ls (tk_ ps k) (nzs f) := by
    rw [ls_sub]
    unfold ls
    congr 1
    exact List.map_congr_left fun u hu => (use_vals hok hl hu k).2.2
  omega
theorem hnd_out (hok : OkP ps) (hl : f.length = ps.length) {k : Str} (h1 : k ∉ ks a) (h2 : k ∉ exK ps) (i : Nat) : gt (hnd ps a f i) k = 0 := by
  have z : ∀ u ∈ nzs f, gv_ ps k u = 0 ∧ tk_ ps k u = 0 := fun u hu => by
    obtain ⟨k1, _, _, _⟩ := nzs_at hl hu
    obtain ⟨s1, s2⟩ := hok.sd _ (List.mem_of_getElem? k1)
    obtain ⟨o1, o2⟩ := exK_out h2 _ (List.mem_of_getElem? k1)
    have eg : gv_ ps k u = gt (gsd (pq ps u.1) u.2) k * (u.2.natAbs : Int) := ti_gt (gsd_P (p := fun d => (ks d).Nodup) s1.nr.nd s2.nr.nd) _ _
    have et : tk_ ps k u = gt (tsd (pq ps u.1) u.2) k * (u.2.natAbs : Int) := ti_gt (tsd_P (p := fun d => (ks d).Nodup) s1.nr.nd s2.nr.nd) _ _
    rw [eg, et]
    refine ⟨?_, ?_⟩
    · rcases gsd_or (pq ps u.1) u.2 with e | e <;> rw [e] <;> simp [o1, o2]
    · rcases tsd_or (pq ps u.1) u.2 with e | e <;> rw [e] <;> simp [o1, o2]
  have zs : ∀ (φ : Nat × Int → Int) (us : List (Nat × Int)), (∀ u ∈ us, φ u = 0) → ls φ us = 0 := fun φ us => by
    induction us with
    | nil => exact fun _ => rfl
    | cons u us ih =>
      intro h
      rw [ls_cons, h u (.head _), ih fun v hv => h v (List.mem_cons_of_mem _ hv)]
      rfl
  rw [hnd_gt, gt_none h1, zs _ _ fun u hu => (z u hu).1, zs _ _ fun u hu => (z u (List.mem_of_mem_take hu)).1, zs _ _ fun u hu => (z u (List.mem_of_mem_take hu)).2]
  rfl
theorem hnd_len (hok : OkP ps) (hl : f.length = ps.length) (i : Nat) : (hnd ps a f i).length ≤ a.length + 6 := by
  have h := nodup_le (l := ks (hnd ps a f i)) (m := ks a ++ exK ps) (hnd_nrm ps a f i).nd fun k hk => by
    by_cases h1 : k ∈ ks a
    · exact List.mem_append_left _ h1
    · by_cases h2 : k ∈ exK ps
      · exact List.mem_append_right _ h2
      · exact absurd (hnd_out hok hl h1 h2 i) (((hnd_nrm ps a f i).ks k).mp hk)
  rw [ks_len, List.length_append, ks_len] at h
  have : (exK ps).length ≤ 6 := hok.k6
  omega
end
end Y
/-! text Zs -/
set_option Elab.async false
set_option linter.all false
set_option maxRecDepth 100000
namespace Y
open PySem PySem.Spec PyProof.Rows L2
theorem bor_nrm (ps : List (DD × DD)) (f : List Int) : Nrm (bor ps f) := by
  unfold bor ttl
  have : ∀ (ds : List DD) (h : DD), Nrm h → Nrm (ds.foldl (pl (· + ·)) h) := by
    intro ds
    induction ds with
    | nil => exact fun _ h => h
    | cons d ds ih => exact fun h _ => ih _ (pl_nrm _ _ _)
  exact this _ _ (nz_nrm _)
theorem bor_len {ps : List (DD × DD)} (hok : OkP ps) {f : List Int} (hl : f.length = ps.length) : (bor ps f).length ≤ 36 := by
  have h1 := sum_le (l := ((nzs f).map (gvn ps)).map List.length) (n := 6) fun x hx => by
    obtain ⟨d, hd, rfl⟩ := List.mem_map.mp hx
    obtain ⟨u, hu, rfl⟩ := List.mem_map.mp hd
    exact gvn_len hok hl hu
  have h2 := nzs_len f
  have h3 := hok.n6
  have h4 := ttl_len ((nzs f).map (gvn ps))
  rw [List.length_map, List.length_map] at h1
  unfold bor
  omega
theorem bor_ge {ps : List (DD × DD)} (hok : OkP ps) {f : List Int} (hl : f.length = ps.length) : (ng (bor ps f)).isEmpty = true := (ng_empty (bor_nrm ps f)).mpr fun k => by
  rw [bor_gt]
  exact ls_nn fun u hu => (use_vals hok hl hu k).1
theorem tkn_len {ps : List (DD × DD)} (h : OkP ps) {f : List Int} (hl : f.length = ps.length) {u : Nat × Int} (hu : u ∈ nzs f) : (tkn ps u).length ≤ 6 := by
  obtain ⟨h1, _, _, _⟩ := nzs_at hl hu
  obtain ⟨a, b⟩ := h.s6 _ (List.mem_of_getElem? h1)
  exact Nat.le_trans (ti_len _ _) (tsd_P (p := fun d => d.length ≤ 6) a b)
section
variable {P : Program} {w : World} {K : PySem.W.Frag} {mg : Str → Option Value} {base : Heap} {C EC : Addr}
abbrev sIL : Stmt := meth 53 39
abbrev nIL : List Str := ["self", "one", "other", "value", "use", "hand"]
theorem scIL : FnScope nIL ["self", "one", "other", "value"] (defScope sIL) := ⟨rfl, rfl, rfl, by decide +kernel, rfl, by decide +kernel, by decide +kernel⟩
abbrev Td (C : Addr) (ps : List (DD × DD)) (f : List Int) : VP := Tp [Ld C (bor ps f), Ls (usP f)]
abbrev spIL (EC C : Addr) : Sp := spP (α := Qr × Row) (fun q => PreLo q.1.1 q.1.2.1 q.1.2.2 ∧ FacK q.1.1 q.1.2.1 q.1.2.2 (some q.2)) (fun q => [Ex EC C q.1.1, Ld C q.1.2.1, Ld C q.1.2.2, Td C q.1.1 q.2]) (fun q => Vl (.bl true))
theorem c_IL (D : MDfn K EC "is_loan" "Exchanges.is_loan" sIL ["self", "one", "other", "value"]) (T' : Bt mg) (Z : LdF K C) (ZE : ExF K EC) (cCD : Cal P w K mg base 8 "check_debts" ["one", "other"] (spCD C)) (cHD : Cal P w K mg base 8 "has_no_debts" ["value"] (spHD C)) (cIU : MCal P w K mg base 2 EC "is_use" ["self", "value"] (spIU EC C))
    (cGS : MCal P w K mg base 8 EC "given_side" ["self", "use"] (spGS EC C gsd)) (cTS : MCal P w K mg base 8 EC "taken_side" ["self", "use"] (spGS EC C tsd)) (cLA : MCal P w K mg base 6 C "__add__" ["self", "other"] (spLP C (· + ·))) (cLS : MCal P w K mg base 6 C "__sub__" ["self", "other"] (spLP C (· - ·)))
    (cLL : MCal P w K mg base 3 C "__le__" ["self", "other"] (spLL C)) (cLQ : MCal P w K mg base 1 C "__eq__" ["self", "other"] (spLQ C)) : MCal P w K mg base 9 EC "is_loan" ["self", "one", "other", "value"] (spIL EC C) := D.cal fun f fd F => by
  refine fn_ok F scIL (fun _ _ => rfl) ?_
  rintro ⟨⟨ps, a, b⟩, f⟩ ⟨hp, ho⟩ cdv A outer s H E B D hB hr hrt hnx
  obtain ⟨hco, hna, hnb, hla, hlb, hra, hrb⟩ : PreLo ps a b := hp
  obtain ⟨hfl, hfe, hfb⟩ : FacK ps a b (some f) := ho
  have hok := hco.ok
  have hn6 := hok.n6
  have hbl := bor_len hok hfl
  have hnl := nzs_len f
  have hap : ∀ k, 0 ≤ gt a k := (ng_empty hra).mp hna
  obtain ⟨gA, fA, FA, mA, bA, _⟩ := cLA.ex
  obtain ⟨gS, fS, FS, mS, bS, _⟩ := cLS.ex
  obtain ⟨gL, fL, FL, mL, bL, _⟩ := cLL.ex
  obtain ⟨gQ, fQ, FQ, mQ, bQ, _⟩ := cLQ.ex
  refine xs_expr (P := Vl .non) (M1 := []) (xpw cCD hr (a, b) (xa_cons (v 1) (xa_cons (v 2) xa_nil)) (fun d hd => by
    rcases List.mem_cons.mp hd with e | hd
    · rw [e]; exact ⟨by show a.length < 64; omega, hna⟩
    · rw [List.mem_singleton.mp hd]; exact ⟨by show b.length < 64; omega, hnb⟩) fun _ _ p => p) ?_
  refine xs_when (p := (· = false)) (XT.w (XW.xt (xw_or (xt_notk (xt_val (xe_callB call_isi (rc_isi (.ty "tuple") ty_tup kit_same) (by rfl) T'.isinstance bt_isi (xa_cons (v 3) (xa_cons (xe_bt T'.tuple bt_tuple rfl) xa_nil))))) fun _ => xw_or (xt_cmp op_ne rv_neI (xe_callB call_len_seq rc_lenT (by rfl) T'.len bt_len (xa_cons (v 3) xa_nil)) xe_int (nomark _)) fun _ => xw_one (xt_notk (xt_val (k := (ng (bor ps f)).isEmpty) (xpw cHD hr (bor ps f) (xa_cons (xe_ix ix_tup (fun _ _ => rfl) (rv_ixT (n := 0) (P := Ld C (bor ps f)) rfl) (v 3) xe_int) xa_nil) (by show (bor ps f).length < 64; omega) fun _ _ p => p))))) fun b e => ?_) (fun ht => by cases ht) (fun _ => ?_)
  · rw [e, bor_ge hok hfl]
    rfl
  refine xs_when (p := (· = false)) (XT.w (XW.xt (xw_or (xt_notk (xt_val (xe_callB call_isi (rc_isi (.ty "list") ty_lst kit_same) (by rfl) T'.isinstance bt_isi (xa_cons (xe_ix ix_tup (fun _ _ => rfl) (rv_ixT (n := 1) (P := Ls (usP f)) rfl) (v 3) xe_int) (xa_cons (xe_bt T'.list bt_list rfl) xa_nil))))) fun _ => xw_one (xt_notk (xt_val (xe_callB (cr_all rfl) (rc_all (bs := (nzs f).map fun _ => true)) (by rfl) T'.all bt_all (xa_cons ?_ xa_nil)))))) fun b e => ?_) (fun ht => by cases ht) (fun _ => ?_)
  · rw [List.map_map]
    refine XLc.ls (xlcM (own := [("use", 4)]) [4] (fun u : Nat × Int => [some (Ex EC C ps), some (Ld C a), some (Ld C b), some (Td C ps f), some (Us u.1 u.2), none]) (nzs f) (fun u => Us u.1 u.2) (fun _ => Vl (.bl true)) rfl scIL.nd (xi_list (xe_ix ix_tup (fun _ _ => rfl) (rv_ixT (n := 1) (P := Ls (usP f)) rfl) (v 3) xe_int)) (blkOk_by (N := nIL) (sc := defScope sIL) (by decide +kernel)) (fun _ _ h => h) (len64 (by omega)) (by decide)
      (fun u hu s H C cl fp => xg_name (i := 4) scIL.nd rfl (.inl rfl)) (fun u hu s H C' cl fp => ?_))
    obtain ⟨k1, k2, k3, k4⟩ := nzs_at hfl hu
    exact xe_mt (Mi := fun _ => []) (Mo := fun _ => []) (Mf := []) cIU (hr.mono (by omega)) ZE.cl (v 0) (xf_no (by decide +kernel)) (ps, u.1, u.2) (xa_cons (v 4) xa_nil) rfl ⟨k4, k3⟩ fun _ _ p => p
  · rw [e, List.all_map]
    have : ((nzs f).all (id ∘ fun _ => true)) = true := List.all_eq_true.mpr fun _ _ => rfl
    rw [this]
    rfl
  refine xs_set (i := 5) (P := Ld C (hnd ps a f 0)) (xe_op (op_own (C := C) (hr.mono (by omega)) FA bA mA Z.sf) (rv_own (P := Ld C (hnd ps a f 0)) (a, bor ps f) (by show a.length + (bor ps f).length < 64; omega) rfl ld_isI ld_isI fun _ _ p => p) (v 1) (xe_ix ix_tup (fun _ _ => rfl) (rv_ixT (n := 0) (P := Ld C (bor ps f)) rfl) (v 3) xe_int)) scIL.nd rfl (.inl rfl) ?_
  refine xs_for (ι := Unit) PassesOwn.never rfl (xi_list (xe_ix ix_tup (fun _ _ => rfl) (rv_ixT (n := 1) (P := Ls (usP f)) rfl) (v 3) xe_int)) (fun i _ => True) (fun i _ => [some (Ex EC C ps), some (Ld C a), some (Ld C b), some (Td C ps f), none, some (Ld C (hnd ps a f i))]) (fun _ _ => []) ⟨(), trivial, (fun _ _ h => h), rfl, fun _ _ h => h⟩ (fun _ _ _ _ _ _ => MO.nil) ?_ ?_
  · rintro i - Q B' bl hQ -
    obtain ⟨u, hiu, rfl⟩ := get_map hQ
    have hu := List.mem_of_getElem? hiu
    obtain ⟨k1, k2, k3, k4⟩ := nzs_at hfl hu
    have hg6 := gvn_len hok hfl hu
    have ht6 := tkn_len hok hfl hu
    have hh := hnd_len (a := a) hok hfl i
    have hpu : PreU ps u.1 (pq ps u.1) u.2 := ⟨hok, k1, bd_mem hfb k2⟩
    have hpl := pl_len (· - ·) (hnd ps a f i) (gvn ps u)
    refine ⟨[4], _, xg_name (i := 4) scIL.nd rfl (.inl rfl), ?_⟩
    refine xs_when (p := (· = !((ks (gvn ps u) ++ ks (hnd ps a f i)).all fun k => decide (gt (gvn ps u) k ≤ gt (hnd ps a f i) k)))) (xt_notk (xt_cmp (op_ownC (C := C) (hr.mono (by omega)) FL bL mL rfl) (rv_own (P := Vl (.bl ((ks (gvn ps u) ++ ks (hnd ps a f i)).all fun k => decide (gt (gvn ps u) k ≤ gt (hnd ps a f i) k)))) (gvn ps u, hnd ps a f i) (by show (gvn ps u).length + (hnd ps a f i).length < 64; omega) rfl ld_isI ld_isI fun _ _ p => p) (xe_mt (P := Ld C (gvn ps u)) (Mi := fun _ => []) (Mo := fun _ => []) (Mf := []) cGS hr ZE.cl (v 0) (xf_no (by decide +kernel)) (ps, u.1, pq ps u.1, u.2) (xa_cons (v 4) xa_nil) rfl hpu fun _ _ p => p) (v 5) (nomark _))) (fun ht => ?_) (fun _ => ?_)
    · have : ((ks (gvn ps u) ++ ks (hnd ps a f i)).all fun k => decide (gt (gvn ps u) k ≤ gt (hnd ps a f i) k)) = true := List.all_eq_true.mpr fun k _ => decide_eq_true (hnd_ge hok hfl hap hiu k)
      rw [this] at ht
      cases ht
    refine xs_set (i := 5) (P := Ld C (hnd ps a f (i + 1))) (xe_op (op_own (C := C) (hr.mono (by omega)) FA bA mA Z.sf) (rv_own (P := Ld C (hnd ps a f (i + 1))) (pl (· - ·) (hnd ps a f i) (gvn ps u), tkn ps u) (by show (pl (· - ·) (hnd ps a f i) (gvn ps u)).length + (tkn ps u).length < 64; omega) rfl ld_isI ld_isI fun v H p => ?_)
      (xe_op (op_own (C := C) (hr.mono (by omega)) FS bS mS Z.sf) (rv_own (P := Ld C (pl (· - ·) (hnd ps a f i) (gvn ps u))) (hnd ps a f i, gvn ps u) (by show (hnd ps a f i).length + (gvn ps u).length < 64; omega) rfl ld_isI ld_isI fun _ _ p => p) (v 5) (xe_mt (P := Ld C (gvn ps u)) (Mi := fun _ => []) (Mo := fun _ => []) (Mf := []) cGS hr ZE.cl (v 0) (xf_no (by decide +kernel)) (ps, u.1, pq ps u.1, u.2) (xa_cons (v 4) xa_nil) rfl hpu fun _ _ p => p))
      (xe_mt (P := Ld C (tkn ps u)) (Mi := fun _ => []) (Mo := fun _ => []) (Mf := []) cTS hr ZE.cl (v 0) (xf_no (by decide +kernel)) (ps, u.1, pq ps u.1, u.2) (xa_cons (v 4) xa_nil) rfl hpu fun _ _ p => p)) scIL.nd rfl (.inl rfl) (xs_nil fun σ H h => ⟨(), trivial, h.unset 4⟩)
    rw [hnd_step hiu]
    exact p
  · rintro - -
    have hlen : (usP f).length = (nzs f).length := List.length_map ..
    refine xs_done hrt (xe_cmp (op_ownC (C := C) (hr.mono (by omega)) FQ bQ mQ rfl) (rv_own (P := Vl (.bl true)) (hnd ps a f (nzs f).length, pl (· + ·) b (bor ps f)) (Nrm.eqs (hnd_nrm _ _ _ _) (pl_nrm _ _ _) (hnd_end hok hfl hfe)) rfl ld_isI ld_isI fun _ _ p => p) ?_ (xe_op (op_own (C := C) (hr.mono (by omega)) FA bA mA Z.sf) (rv_own (P := Ld C (pl (· + ·) b (bor ps f))) (b, bor ps f) (by show b.length + (bor ps f).length < 64; omega) rfl ld_isI ld_isI fun _ _ p => p) (v 2) (xe_ix ix_tup (fun _ _ => rfl) (rv_ixT (n := 0) (P := Ld C (bor ps f)) rfl) (v 3) xe_int)) (nomark _))
    refine XE.w (v 5) fun v H p => ?_
    rw [hlen] at p
    exact p
end
end Y
/-! text ZB -/
set_option Elab.async false
set_option linter.all false
set_option maxRecDepth 100000
namespace Y
open PySem PySem.Spec PyProof.Rows L2 Mt
theorem xg_lst {X : Cx} {L : List Addr} {G G1 : Gam} {pos : Pos} {es : List Expr} {kk : Nat} {js : List Nat} {Ps : List VP} (hc : X.calm = true) (h : XGs X L es js Ps G G1) (hn : (assignEach es X.env).length = Ps.length := by rfl) (hst : (assignEach es X.env).findIdx? (·.1) = none := by rfl) : XG1 X L (.Tuple es kk pos) js (Ls Ps) G G1 := by
  obtain ⟨t, ht, h⟩ := h
  exact xg_of (pg_unl hc ht hn hst) fun v σ H H0 s l ⟨a, vs, e, ha, hv⟩ Q k => ⟨a, vs, e, SqL.of (s.lst ha), hv.len, h vs σ H H0 s l hv Q k⟩
section
variable {P : Program} {w : World} {K : PySem.W.Frag} {mg : Str → Option Value} {base : Heap} {C EC : Addr}
abbrev sCa : Stmt := top 74
abbrev nCa : List Str := ["_law_some", "_law_first", "_law_second", "_law_third"]
theorem scCa : FnScope nCa ["_law_some"] (defScope sCa) := ⟨rfl, rfl, rfl, by decide +kernel, rfl, by decide +kernel, by decide +kernel⟩
abbrev spCa (EC C : Addr) : Sp := spP (α := List (DD × DD)) OkP (fun ps => [Ls (ps.map (Pr C))]) (fun ps => Ex EC C ps)
theorem ms {n : Nat} (h : n ≤ 8) : n ≤ sizeLine := by
  rw [sizeLine_eq]
  omega
theorem c_Ca (D : Dfn K mg "_law_called" sCa ["_law_some"]) (T : Bt mg) (cEI : ICal P w K mg base 11 "Exchanges" EC (spEI EC C)) : Cal P w K mg base 13 "_law_called" ["_law_some"] (spCa EC C) := D.cal fun f fd F => by
  refine fn_ok F scCa (fun _ _ => rfl) ?_
  rintro ps hp cdv A outer s H E B D hB hr hrt hnx
  have hp : OkP ps := hp
  refine xs_when (M1 := []) (p := (· = decide (((ps.map (Pr C)).length : Int) < 3))) (xt_cmp op_lt (rv_i0 (i := ((ps.map (Pr C)).length : Int)) (j := 3)) (xe_callB call_len_seq rc_lenL (by rfl) T.len bt_len (xa_cons (v 0) xa_nil)) xe_int (nomark _)) (fun ht => ?_) (fun ht => ?_)
  · match ps, hp, ht with
    | [], hp, _ => 
      refine xs_when (M1 := []) (p := (· = true)) (xt_cmp (op_eqE hr.units0) rv_eqEL (v 0) (xe_lst xa_nil (Nat.zero_le _)) (nomark _)) (fun _ => ?_) (fun ht => by cases ht)
      exact xs_done hrt (xe_makeI0 (Fs := fun ps => XF C ps) cEI (hr.mono (by omega)) [] hp rfl)
    | [a], hp, _ =>
      refine xs_when (M1 := []) (p := (· = false)) (xt_cmp (op_eqE hr.units0) rv_eqEL (v 0) (xe_lst xa_nil (Nat.zero_le _)) (nomark _)) (fun ht => by cases ht) (fun _ => ?_)
      exact xs_done hrt (xe_if (xt_cmp op_eq rv_eqI (xe_callB call_len_seq rc_lenL (by rfl) T.len bt_len (xa_cons (v 0) xa_nil)) xe_int (nomark _)) (fun _ => (xe_makeI (Fs := fun ps => XF C ps) (As := fun ps => [TPr C ps]) cEI (hr.mono (by omega)) (xa_cons (xe_ix ix_list (fun _ _ => rfl) (rv_ixL (n := 0) rfl) (v 0) xe_int) xa_nil) [a] hp rfl (ms (by simp)))) (fun ht => by cases ht) rfl)
    | [a, b], hp, _ =>
      refine xs_when (M1 := []) (p := (· = false)) (xt_cmp (op_eqE hr.units0) rv_eqEL (v 0) (xe_lst xa_nil (Nat.zero_le _)) (nomark _)) (fun ht => by cases ht) (fun _ => ?_)
      exact xs_done hrt (xe_if (xt_cmp op_eq rv_eqI (xe_callB call_len_seq rc_lenL (by rfl) T.len bt_len (xa_cons (v 0) xa_nil)) xe_int (nomark _)) (fun ht => by cases ht) (fun _ => (xe_makeI (Fs := fun ps => XF C ps) (As := fun ps => [TPr C ps]) cEI (hr.mono (by omega)) (xa_cons (xe_ix ix_list (fun _ _ => rfl) (rv_ixL (n := 0) rfl) (v 0) xe_int) (xa_cons (xe_ix ix_list (fun _ _ => rfl) (rv_ixL (n := 1) rfl) (v 0) xe_int) xa_nil)) [a, b] hp rfl (ms (by simp)))) rfl)
    | _ :: _ :: _ :: _, hp, ht => 
      have := of_decide_eq_true ht.symm
      simp at this
      omega
  · match ps, hp, ht with
    | [], _, ht => cases ht
    | [_], _, ht => cases ht
    | [_, _], _, ht => cases ht
    | [a, b, c], hp, _ =>
      refine xs_asg (js := [1, 2, 3]) (P := Ls [Pr C a, Pr C b, Pr C c]) (M1 := []) ?_ (xg_lst rfl (xgs_cons (xg_name (i := 1) scCa.nd rfl (.inl rfl)) (xgs_cons (xg_name (i := 2) scCa.nd rfl (.inl rfl)) (xgs_cons (xg_name (i := 3) scCa.nd rfl (.inl rfl)) xgs_nil)))) ?_
      · exact xe_to (Ps := [a, b, c].map (Pr C)) (n := 3) (v 0) xe_int
      refine xs_when (M1 := []) (p := (· = true)) (xt_cmp op_lt (rv_i0 (i := 3) (j := 5)) (xe_callB call_len_seq rc_lenL (by rfl) T.len bt_len (xa_cons (v 0) xa_nil)) xe_int (nomark _)) (fun _ => ?_) (fun ht => by cases ht)
      exact xs_done hrt (xe_if (xt_cmp op_eq rv_eqI (xe_callB call_len_seq rc_lenL (by rfl) T.len bt_len (xa_cons (v 0) xa_nil)) xe_int (nomark _)) (fun _ => (xe_makeI (Fs := fun ps => XF C ps) (As := fun ps => [TPr C ps]) cEI (hr.mono (by omega)) (xa_cons (v 1) (xa_cons (v 2) (xa_cons (v 3) xa_nil))) [a, b, c] hp rfl (ms (by simp)))) (fun ht => by cases ht) rfl)
    | [a, b, c, d], hp, _ =>
      refine xs_asg (js := [1, 2, 3]) (P := Ls [Pr C a, Pr C b, Pr C c]) (M1 := []) ?_ (xg_lst rfl (xgs_cons (xg_name (i := 1) scCa.nd rfl (.inl rfl)) (xgs_cons (xg_name (i := 2) scCa.nd rfl (.inl rfl)) (xgs_cons (xg_name (i := 3) scCa.nd rfl (.inl rfl)) xgs_nil)))) ?_
      · exact xe_to (Ps := [a, b, c, d].map (Pr C)) (n := 3) (v 0) xe_int
      refine xs_when (M1 := []) (p := (· = true)) (xt_cmp op_lt (rv_i0 (i := 4) (j := 5)) (xe_callB call_len_seq rc_lenL (by rfl) T.len bt_len (xa_cons (v 0) xa_nil)) xe_int (nomark _)) (fun _ => ?_) (fun ht => by cases ht)
      exact xs_done hrt (xe_if (xt_cmp op_eq rv_eqI (xe_callB call_len_seq rc_lenL (by rfl) T.len bt_len (xa_cons (v 0) xa_nil)) xe_int (nomark _)) (fun ht => by cases ht) (fun _ => (xe_makeI (Fs := fun ps => XF C ps) (As := fun ps => [TPr C ps]) cEI (hr.mono (by omega)) (xa_cons (v 1) (xa_cons (v 2) (xa_cons (v 3) (xa_cons (xe_ix ix_list (fun _ _ => rfl) (rv_ixL (n := 3) rfl) (v 0) xe_int) xa_nil)))) [a, b, c, d] hp rfl (ms (by simp)))) rfl)
    | [a, b, c, d, e], hp, _ =>
      refine xs_asg (js := [1, 2, 3]) (P := Ls [Pr C a, Pr C b, Pr C c]) (M1 := []) ?_ (xg_lst rfl (xgs_cons (xg_name (i := 1) scCa.nd rfl (.inl rfl)) (xgs_cons (xg_name (i := 2) scCa.nd rfl (.inl rfl)) (xgs_cons (xg_name (i := 3) scCa.nd rfl (.inl rfl)) xgs_nil)))) ?_
      · exact xe_to (Ps := [a, b, c, d, e].map (Pr C)) (n := 3) (v 0) xe_int
      refine xs_when (M1 := []) (p := (· = false)) (xt_cmp op_lt (rv_i0 (i := 5) (j := 5)) (xe_callB call_len_seq rc_lenL (by rfl) T.len bt_len (xa_cons (v 0) xa_nil)) xe_int (nomark _)) (fun ht => by cases ht) (fun _ => ?_)
      refine xs_when (M1 := []) (p := (· = true)) (xt_cmp op_eq (rv_eqI (i := 5) (j := 5)) (xe_callB call_len_seq rc_lenL (by rfl) T.len bt_len (xa_cons (v 0) xa_nil)) xe_int (nomark _)) (fun _ => ?_) (fun ht => by cases ht)
      exact xs_done hrt (xe_makeI (Fs := fun ps => XF C ps) (As := fun ps => [TPr C ps]) cEI (hr.mono (by omega)) (xa_cons (v 1) (xa_cons (v 2) (xa_cons (v 3) (xa_cons (xe_ix ix_list (fun _ _ => rfl) (rv_ixL (n := 3) rfl) (v 0) xe_int) (xa_cons (xe_ix ix_list (fun _ _ => rfl) (rv_ixL (n := 4) rfl) (v 0) xe_int) xa_nil))))) [a, b, c, d, e] hp rfl (ms (by simp)))
    | [a, b, c, d, e, f], hp, _ =>
      refine xs_asg (js := [1, 2, 3]) (P := Ls [Pr C a, Pr C b, Pr C c]) (M1 := []) ?_ (xg_lst rfl (xgs_cons (xg_name (i := 1) scCa.nd rfl (.inl rfl)) (xgs_cons (xg_name (i := 2) scCa.nd rfl (.inl rfl)) (xgs_cons (xg_name (i := 3) scCa.nd rfl (.inl rfl)) xgs_nil)))) ?_
      · exact xe_to (Ps := [a, b, c, d, e, f].map (Pr C)) (n := 3) (v 0) xe_int
      refine xs_when (M1 := []) (p := (· = false)) (xt_cmp op_lt (rv_i0 (i := 6) (j := 5)) (xe_callB call_len_seq rc_lenL (by rfl) T.len bt_len (xa_cons (v 0) xa_nil)) xe_int (nomark _)) (fun ht => by cases ht) (fun _ => ?_)
      refine xs_when (M1 := []) (p := (· = false)) (xt_cmp op_eq (rv_eqI (i := 6) (j := 5)) (xe_callB call_len_seq rc_lenL (by rfl) T.len bt_len (xa_cons (v 0) xa_nil)) xe_int (nomark _)) (fun ht => by cases ht) (fun _ => ?_)
      refine xs_when (M1 := []) (p := (· = true)) (xt_cmp op_eq (rv_eqI (i := 6) (j := 6)) (xe_callB call_len_seq rc_lenL (by rfl) T.len bt_len (xa_cons (v 0) xa_nil)) xe_int (nomark _)) (fun _ => ?_) (fun ht => by cases ht)
      exact xs_done hrt (xe_makeI (Fs := fun ps => XF C ps) (As := fun ps => [TPr C ps]) cEI (hr.mono (by omega)) (xa_cons (v 1) (xa_cons (v 2) (xa_cons (v 3) (xa_cons (xe_ix ix_list (fun _ _ => rfl) (rv_ixL (n := 3) rfl) (v 0) xe_int) (xa_cons (xe_ix ix_list (fun _ _ => rfl) (rv_ixL (n := 4) rfl) (v 0) xe_int) (xa_cons (xe_ix ix_list (fun _ _ => rfl) (rv_ixL (n := 5) rfl) (v 0) xe_int) xa_nil)))))) [a, b, c, d, e, f] hp rfl (ms (by simp)))
    | _ :: _ :: _ :: _ :: _ :: _ :: _ :: _, hp, _ =>
      have := hp.n6
      simp at this
end
end Y
/-! text ZC -/
set_option Elab.async false
set_option linter.all false
set_option maxRecDepth 100000
namespace Y
open PySem PySem.Spec PyProof.Rows L2 Mt
section
variable {P : Program} {w : World} {K : PySem.W.Frag} {mg : Str → Option Value} {base : Heap} {C EC : Addr}
/-! made -/
abbrev sMd : Stmt := top 64
abbrev nMd : List Str := ["_law_pairs", "_law_left", "_law_right"]
theorem scMd : FnScope nMd ["_law_pairs"] (defScope sMd) := ⟨rfl, rfl, rfl, by decide +kernel, rfl, by decide +kernel, by decide +kernel⟩
abbrev nz2 (q : DD × DD) : DD × DD := (nz q.1, nz q.2)
structure OkD (d : DD) : Prop where
  l : d.length < 64
  w : ∀ k ∈ ks d, Wd k
abbrev spMd (EC C : Addr) : Sp := spP (α := List (DD × DD)) (fun ps => OkP (ps.map nz2) ∧ (∀ q ∈ ps, OkD q.1 ∧ OkD q.2) ∧ ps.length < 64) (fun ps => [LPd ps]) (fun ps => Ex EC C (ps.map nz2))
theorem c_Md (D : Dfn K mg "_law_made" sMd ["_law_pairs"]) (hL : mg "Load" = some (.ref C)) (cLF : KCal P w K mg base 5 C "of" (spLF C)) (cCa : Cal P w K mg base 13 "_law_called" ["_law_some"] (spCa EC C)) : Cal P w K mg base 14 "_law_made" ["_law_pairs"] (spMd EC C) := D.cal fun f fd F => by
  refine fn_ok F scMd (fun _ _ => rfl) ?_
  rintro ps ⟨h1, h2, h3⟩ cdv A outer s H E B D hB hr hrt hnx
  have h3 : ps.length < 64 := h3
  have h2 : ∀ q ∈ ps, OkD q.1 ∧ OkD q.2 := h2
  refine xs_done hrt (xpw cCa hr (ps.map nz2) (xa_cons ?_ xa_nil) h1 fun _ _ p => p)
  show XE _ _ _ _ _ (Ls ((ps.map nz2).map (Pr C))) _
  rw [List.map_map]
  refine XLc.ls (xlcM (own := [("_law_left", 1), ("_law_right", 2)]) [1, 2] (fun q : DD × DD => [some (LPd ps), some (Dc q.1), some (Dc q.2)]) ps Pd (fun q => Pr C (nz2 q)) rfl scMd.nd (xi_list (v 0)) (blkOk_by (N := nMd) (sc := defScope sMd) (by decide +kernel)) (fun _ _ h => h) (len64 h3) (by decide)
    (fun k hk s H C cl fp => xg_tup rfl (xgs_cons (xg_name (i := 1) scMd.nd rfl (.inl rfl)) (xgs_cons (xg_name (i := 2) scMd.nd rfl (.inl rfl)) xgs_nil))) (fun q hq s H C' cl fp => ?_))
  obtain ⟨⟨a1, a2⟩, ⟨b1, b2⟩⟩ := h2 q hq
  refine xe_tup (xa_cons (P := Ld C (nz q.1)) (M1 := []) ?_ (xa_cons (P := Ld C (nz q.2)) (M1 := []) ?_ xa_nil)) sl2
  · exact xe_cmeth cLF (hr.mono (by omega)) (xe_gl hL rfl) (xa_cons (v 1) xa_nil) q.1 ⟨a1, a2⟩ rfl fun _ _ p => p
  · exact xe_cmeth cLF (hr.mono (by omega)) (xe_gl hL rfl) (xa_cons (v 2) xa_nil) q.2 ⟨b1, b2⟩ rfl fun _ _ p => p
end
end Y
/-! text ZD -/
set_option Elab.async false
set_option linter.all false
set_option maxRecDepth 100000
namespace Y
open PySem PySem.Spec PyProof.Rows L2 Mt
/-- a text of ws; a count up to N -/
abbrev Tx (ws : List Str) : VP := ExP (fun k : Str => k ∈ ws) fun k => Vl (.str k)
theorem oneOf_tx {ws : List Str} : ∀ v H, (OneOf (ws.map fun k => Vl (.str k))).p v H → (Tx ws).p v H := fun v H ⟨P, hP, p⟩ => by
  obtain ⟨k, hk, rfl⟩ := List.mem_map.mp hP
  exact ⟨k, hk, p⟩
end Y
/-! text ZD2 -/
set_option Elab.async false
set_option linter.all false
set_option maxRecDepth 100000
namespace Y
open PySem PySem.Spec PyProof.Rows L2 Mt
section
variable {X : Cx} {G : Gam} {M : Ml} {pos : Pos} {a b c d : Expr} {k k2 : Str} {i j : Int}
/-- {a: b} -/
theorem xe_d1 (ha : XE X [] a G [] (Vl (.str k)) []) (hb : XE X [] b G [] (Vl (.int i)) []) : XE X [] (.Dict [some a] [b] pos) G M (Dc [(k, i)]) M := by
  refine ⟨rfl, fun σ H H0 s l m Q kk pins sh I => (pe_disp (pps_cons pW pW pps_nil) rfl rfl (by simp) (by simp)).run pins sh σ H Q I fun p hp => ?_⟩
  have h0 : H0 p = none := s.no hp
  have g0 : Grow [] [] H0 H H0 (upd H p (.dK [])) := (Grow.refl s).write h0 (.inr hp)
  have m0 : MO [(p, CDx [] [])] H0 (upd H p (.dK [])) := ⟨by simp [ads], fun c hc => by
    have hc := List.mem_singleton.mp hc
    subst hc
    exact ⟨h0, _, upd_same, rfl, fun _ h => by cases h⟩⟩
  refine (ha.beside (M := [(p, CDx [] [])])).then2 (hb.beside (M := [(p, CDx [] [])])) g0.sub l m0 fun x y H2 H02 g2 s2 l2 m2 px py => ?_
  obtain ⟨k1, o, k2, k3, -⟩ := m2.2 _ (.head _)
  have k1 : H02 p = none := k1
  have k2 : H2 p = some o := k2
  subst k3
  have px : x = .str k := px
  have py : y = .int i := py
  subst px py
  refine ⟨k2, [(.inr k, .int i)], rfl, by simp, ?_⟩
  have e : mergeK [] [((.inr k : Key), V.int i)] = ofD [(k, i)] := by
    simp [mergeK, putK, ofD]
  rw [e]
  have gA : Grow [] [] H0 H H02 H2 := g0.trans g2 fun z hz => .inr (by rw [List.mem_singleton.mp hz]; exact hp)
  have gB : Grow [] [] H0 H H02 (upd H2 p (.dK (ofD [(k, i)]))) := gA.write k1 (.inr hp)
  have mB : MO ([] ++ [(p, CDc [(k, i)])]) H02 (upd H2 p (.dK (ofD [(k, i)]))) := ⟨by simp [ads], fun c hc => by
    have hc := List.mem_singleton.mp hc
    subst hc
    exact ⟨k1, _, upd_same, rfl⟩⟩
  obtain ⟨o', ho', hH, g3, m3, sm⟩ := mB.shut gB hp
  have ho' : o' = .dK (ofD [(k, i)]) := ho'
  subst ho'
  exact kk _ _ _ g3.nil (m.grow0 g3) ⟨p, rfl, upd_same⟩
end
end Y
/-! text ZE -/
set_option Elab.async false
set_option linter.all false
set_option maxRecDepth 100000
namespace Y
open PySem PySem.Spec PyProof.Rows L2 Mt
theorem dn_us {N : Nat} {kk : List Str} {us : List (Str × Int)} (h : ∀ u ∈ us, u.1 ∈ kk ∧ 0 ≤ u.2 ∧ u.2 ≤ (N : Int)) : Dn N kk (mk Prod.fst Prod.snd us) := by
  have hs : ∀ k ∈ ks (mk Prod.fst Prod.snd us), k ∈ kk := fun k hk => by
    obtain ⟨u, hu, e⟩ := List.mem_map.mp ((mk_ks _ _ _ _).mp hk)
    rw [← e]
    exact (h u hu).1
  have hnd := mk_nodup Prod.fst Prod.snd us
  refine ⟨hnd, hs, fun p hp => ?_, ?_⟩
  · obtain ⟨u, hu, e⟩ := mk_mem _ _ _ _ rfl hp
    rw [e]
    exact (h u hu).2
  · have := nodup_le hnd hs
    rw [ks_len] at this
    exact this
section
variable {X : Cx} {G : Gam} {M : Ml} {pos : Pos} {a b c d : Expr} {k k2 : Str} {i j : Int}
theorem xe_d1' (ha : XE X [] a G [] (Vl (.str k)) []) (hb : XE X [] b G [] (Vl (.int i)) []) : XE X [] (.Dict [some a] [b] pos) G M (Dc (mk Prod.fst Prod.snd [(k, i)])) M := xe_d1 ha hb
/-- {a: b, c: d} -/
theorem xe_d2 (ha : XE X [] a G [] (Vl (.str k)) []) (hb : XE X [] b G [] (Vl (.int i)) []) (hc : XE X [] c G [] (Vl (.str k2)) []) (hd : XE X [] d G [] (Vl (.int j)) []) : XE X [] (.Dict [some a, some c] [b, d] pos) G M (Dc (mk Prod.fst Prod.snd [(k, i), (k2, j)])) M := by
  refine ⟨rfl, fun σ H H0 s l m Q kk pins sh I => (pe_disp (pps_cons pW pW (pps_cons pW pW pps_nil)) rfl rfl (by simp) (by simp)).run pins sh σ H Q I fun p hp => ?_⟩
  have h0 : H0 p = none := s.no hp
  have g0 : Grow [] [] H0 H H0 (upd H p (.dK [])) := (Grow.refl s).write h0 (.inr hp)
  have m0 : MO [(p, CDx [] [])] H0 (upd H p (.dK [])) := ⟨by simp [ads], fun c hc => by
    have hc := List.mem_singleton.mp hc
    subst hc
    exact ⟨h0, _, upd_same, rfl, fun _ h => by cases h⟩⟩
  refine (ha.beside (M := [(p, CDx [] [])])).then2 (hb.beside (M := [(p, CDx [] [])])) g0.sub l m0 fun x y H1 H01 g1 s1 l1 m1 px py => ?_
  refine (hc.beside (M := [(p, CDx [] [])])).then2 (hd.beside (M := [(p, CDx [] [])])) s1 l1 m1 fun z w H2 H02 g2' s2 l2 m2 pz pw => ?_
  have g2 := g1.tr g2'
  obtain ⟨k1, o, k2', k3, -⟩ := m2.2 _ (.head _)
  have k1 : H02 p = none := k1
  have k2' : H2 p = some o := k2'
  subst k3
  have px : x = .str k := px
  have py : y = .int i := py
  have pz : z = .str k2 := pz
  have pw : w = .int j := pw
  subst px py pz pw
  refine ⟨k2', [(.inr k, .int i), (.inr k2, .int j)], rfl, by simp, ?_⟩
  have e : mergeK [] [((.inr k : Key), V.int i), ((.inr k2 : Key), V.int j)] = ofD (mk Prod.fst Prod.snd [(k, i), (k2, j)]) := merge_mk Prod.fst Prod.snd [(k, i), (k2, j)]
  rw [e]
  have gA : Grow [] [] H0 H H02 H2 := g0.trans g2 fun z hz => .inr (by rw [List.mem_singleton.mp hz]; exact hp)
  have gB : Grow [] [] H0 H H02 (upd H2 p (.dK (ofD (mk Prod.fst Prod.snd [(k, i), (k2, j)])))) := gA.write k1 (.inr hp)
  have mB : MO ([] ++ [(p, CDc (mk Prod.fst Prod.snd [(k, i), (k2, j)]))]) H02 (upd H2 p (.dK (ofD (mk Prod.fst Prod.snd [(k, i), (k2, j)])))) := ⟨by simp [ads], fun c hc => by
    have hc := List.mem_singleton.mp hc
    subst hc
    exact ⟨k1, _, upd_same, rfl⟩⟩
  obtain ⟨o', ho', hH, g3, m3, sm⟩ := mB.shut gB hp
  have ho' : o' = .dK (ofD (mk Prod.fst Prod.snd [(k, i), (k2, j)])) := ho'
  subst ho'
  exact kk _ _ _ g3.nil (m.grow0 g3) ⟨p, rfl, upd_same⟩
end
/-- drawn pairs -/
theorem ls_chooseR {ws : List Str} {f : Int → Prop} : ∀ {m : Nat} {vs : List V} {H : Hp}, AllP H vs (List.replicate m (Tp [Tx ws, II f])) → ∃ us : List (Str × Int), us.length = m ∧ (∀ u ∈ us, u.1 ∈ ws ∧ f u.2) ∧ AllP H vs (us.map fun u => Tp [Vl (.str u.1), Vl (.int u.2)]) := by
  intro m
  induction m with
  | zero => exact fun {vs H} h => ⟨[], rfl, (fun _ h => by cases h), h⟩
  | succ m ih =>
    intro vs H h
    match vs, h with
    | v :: vs, ⟨⟨a, us, e1, e2, e3⟩, h2⟩ =>
      match us, e3 with
      | [x, y], ⟨⟨k, hk, hx⟩, ⟨z, fz, hy⟩, _⟩ =>
        obtain ⟨zs, i1, i2, i3⟩ := ih h2
        refine ⟨(k, z) :: zs, by rw [List.length_cons, i1], fun u hu => ?_, ⟨a, [x, y], e1, e2, hx, hy, trivial⟩, i3⟩
        rcases List.mem_cons.mp hu with e | hu
        · rw [e]; exact ⟨hk, fz⟩
        · exact i2 u hu
theorem rc_dictR {L : List Addr} {K : PySem.W.Frag} {N n : Nat} {ws : List Str} : RC L (fun xs H Q => ∃ (a : Addr) (ps : List Addr) (kvs : List (Key × V)), xs = [.ref a] ∧ SqL K H a (ps.map V.ref) ∧ Paired (fun p kv => SqT K H p [kV kv.1, kv.2]) ps kvs ∧
    ∀ p, H p = none → Q (.ref p) (upd H p (.dK (mergeK [] kvs)))) [ExP (fun m : Nat => m ≤ n) fun m => Ls (List.replicate m (Tp [Tx ws, II fun z => 0 ≤ z ∧ z ≤ (N : Int)]))] (ExP (Dn N ws) Dc) := fun ys H H0 s hv Q k => by
  obtain ⟨v, rfl, m, hm, a, vs, rfl, ha, hvs⟩ := all1 hv
  obtain ⟨us, z1, z2, z3⟩ := ls_chooseR hvs
  refine rc_dictP Prod.fst Prod.snd us [.ref a] H H0 s ⟨⟨a, vs, rfl, ha, z3⟩, trivial⟩ Q fun z H' H0' g p => k z H' H0' g ⟨_, dn_us fun u hu => ⟨(z2 u hu).1, (z2 u hu).2⟩, p⟩
section
variable {X : Cx} {elt tg iter : Expr} {ifs : List Expr} {G : Gam} {q : Addr} {n : Nat}
/-- a map with a test, both draw: c draws at most for each item -/
theorem xlcT {α : Type} {scope : Scope} {own : List (Str × Nat)} (c1 c2 : Nat) (js : List Nat) (G2 : α → Gam) (xs : List α) (R : α → VP) (R' : VP) (hc : X.calm = true) (hN : X.N.Nodup) (hi : XI X [] tg iter G [(q, CPen n)] (xs.map R) [(q, CPen n)] []) (ok : BlkOk X.N X.env.scope scope own)
    (hl : xs.length < sizeLine) (hj : ∀ j ∈ js, j ∈ own.map (·.2)) (hg : ∀ x ∈ xs, ∀ s H C cl fp, XG1 (bk X scope s H C cl fp) [] tg js (R x) (wipeG G (own.map (·.2))) (G2 x))
    (ht : ∀ m x, m ≤ n + (c1 + c2) * xs.length → x ∈ xs → ∀ s H C cl fp, XTs (bk X scope s H C cl fp) [] ifs (G2 x) [(q, CPen m)] (fun _ => True) [(q, CPen (m + c1))])
    (he : ∀ m x, m ≤ n + (c1 + c2) * xs.length → x ∈ xs → ∀ s H C cl fp, XE (bk X scope s H C cl fp) [] elt (G2 x) [(q, CPen (m + c1))] R' [(q, CPen (m + c1 + c2))])
    (hfs : ∀ x, foldedSetIterable iter X.env x = pure x := by intro _; rfl) : XLc X [] elt tg iter ifs scope G [(q, CPen n)] (CEx (fun m : Nat => m ≤ xs.length) fun m => CLs (List.replicate m R')) [(q, CPen (n + (c1 + c2) * xs.length))] := by
  refine xlc (ι := Nat × Nat) hc hN hi ok (fun i a => a.1 ≤ i ∧ a.2 ≤ n + (c1 + c2) * i) (fun i a => [(q, CPen a.2)]) (fun i a => List.replicate a.1 R') ⟨(0, n), ⟨Nat.le_refl _, Nat.le_refl _⟩, rfl, rfl, fun _ _ h => h⟩ (fun i a hi ha => ⟨?_, rfl, fun _ _ _ => MO.nil⟩) (fun i a P hP ha => ?_) (fun a ha p H0 H m => ?_) rfl hfs
  · rw [List.length_map] at hi
    rw [List.length_replicate]
    have := ha.1
    omega
  · rw [List.getElem?_map] at hP
    cases e : xs[i]? with
    | none =>
      rw [e] at hP
      cases hP
    | some x =>
      rw [e] at hP
      have hP : R x = P := Option.some.inj hP
      subst hP
      have hx : x ∈ xs := List.mem_of_getElem? e
      have hlt := (List.getElem?_eq_some_iff.mp e).1
      have hmul : (c1 + c2) * (i + 1) = (c1 + c2) * i + (c1 + c2) := Nat.mul_succ _ _
      have hle : (c1 + c2) * i ≤ (c1 + c2) * xs.length := Nat.mul_le_mul_left _ (Nat.le_of_lt hlt)
      obtain ⟨h1, h2⟩ := ha
      refine ⟨js, G2 x, fun _ => True, [(q, CPen (a.2 + c1))], hj, hg x hx, ht a.2 x (by omega) hx, fun _ => ⟨R', (a.1 + 1, a.2 + c1 + c2), ⟨by show a.1 + 1 ≤ i + 1; omega, by show a.2 + c1 + c2 ≤ _; omega⟩, ?_, he a.2 x (by omega) hx⟩, fun _ => ⟨(a.1, a.2 + c1), ⟨by show a.1 ≤ i + 1; omega, by show a.2 + c1 ≤ _; omega⟩, rfl, rfl⟩⟩
      exact List.replicate_succ'
  · have hlen : ((List.map R xs).length) = xs.length := List.length_map ..
    rw [hlen] at ha
    obtain ⟨h1, h2⟩ := ha
    refine ⟨m.1, fun c hc => ?_⟩
    rcases List.mem_append.mp hc with hc | hc
    · have hc := List.mem_singleton.mp hc
      subst hc
      obtain ⟨u1, o, u2, u3⟩ := m.2 (q, CPen a.2) (List.mem_append_left _ (.head _))
      exact ⟨u1, o, u2, pen_w h2 _ _ u3⟩
    · have hc := List.mem_singleton.mp hc
      subst hc
      obtain ⟨u1, o, u2, u3⟩ := m.2 (p, _) (List.mem_append_right _ (.head _))
      exact ⟨u1, o, u2, a.1, h1, u3⟩
theorem XEm.lsX {α : Type} {f : α → Prop} {e : Expr} {L : List Addr} {M M' : Ml} {Ps : α → List VP} (h : XEm X L e G M (CEx f fun x => CLs (Ps x)) M') : XE X L e G M (ExP f fun x => Ls (Ps x)) M' := h.xe fun q o H ⟨x, fx, vs, e, hv⟩ hq => ⟨x, fx, q, vs, rfl, by rw [hq, e], hv⟩
end
end Y
/-! text ZF -/
set_option Elab.async false
set_option linter.all false
set_option maxRecDepth 100000
namespace Y
open PySem PySem.Spec PyProof.Rows L2 Mt
section
variable {P : Program} {w : World} {K : PySem.W.Frag} {mg : Str → Option Value} {base : Heap}
abbrev sPa : Stmt := top 62
abbrev nPa : List Str := ["_law_pen_here", "_law_words_here", "_law_way", "_law_n", "_law_m", "_law_first", "_law_second", "_law_third", "_law_some", "_law_k", "_law_word"]
theorem scPa : FnScope nPa ["_law_pen_here", "_law_words_here"] (defScope sPa) := ⟨rfl, rfl, rfl, by decide +kernel, rfl, by decide +kernel, by decide +kernel⟩
def lcScope (st : Stmt) : Scope := match st with
  | .Assign _ (.ListComp _ _ s _) _ => s
  | _ => defScope st
abbrev csPa : Scope := lcScope ((defBody sPa).getD 7 (.Pass ⟨0, 0, 0, 0⟩))
abbrev okPd (ws : List Str) (q : DD × DD) : Prop := Dn 1000000 ws q.1 ∧ Dn 1000000 ws q.2
abbrev spPa : Sp := spG (α := Addr × Nat × List Str) (fun y => y.2.1 < 700000 ∧ 2 ≤ y.2.2.length ∧ y.2.2.length ≤ 6) (fun y => [Rf y.1, TL y.2.2]) (fun y => [(y.1, CPen y.2.1)]) (fun y => ExP (okPd y.2.2) Pd) (fun y => [(y.1, CPen (y.2.1 + 120))])
theorem pd_w {ws : List Str} {d1 d2 : DD} (h1 : Dn 1000000 ws d1) (h2 : Dn 1000000 ws d2) : ∀ v H, (Tp [Dc d1, Dc d2]).p v H → (ExP (okPd ws) Pd).p v H := fun v H p => ⟨(d1, d2), ⟨h1, h2⟩, p⟩
theorem c_Pa (D : Dfn K mg "_law_pair" sPa ["_law_pen_here", "_law_words_here"]) (T : Bt mg) (cDr : Cal P w K mg base 1 "_law_draw" ["_law_pen_here", "_law_many"] spDr) (cTi : Cal P w K mg base 3 "_law_times" ["_law_pen_here"] spTi) (cPk : Cal P w K mg base 2 "_law_pick" ["_law_pen_here", "_law_options"] spPk) : Cal P w K mg base 4 "_law_pair" ["_law_pen_here", "_law_words_here"] spPa := D.cal fun f fd F => by
  refine fn_ok F scPa (fun _ _ => rfl) ?_
  rintro ⟨q, n, ws⟩ ⟨hn, hl2, hl6⟩ cdv A outer s H E B D hB hr hrt hnx
  have hn : n < 700000 := hn
  have hl2 : 2 ≤ ws.length := hl2
  have hl6 : ws.length ≤ 6 := hl6
  refine xs_par3 (i := 2) (j := 3) (k := 4) (P1 := Dg 9) (P2 := Tm) (P3 := Tm) (M1 := [(q, CPen (n + 15))]) rfl scPa.nd rfl rfl rfl (by decide) (by decide) (by decide) rfl rfl rfl
    (xa_cons (M1 := [(q, CPen (n + 1))]) (xcq [] cDr (hr.mono (by omega)) (q, n, 9) (xa_cons (v 0) (xa_cons xe_int xa_nil)) ⟨by show n < 1000000; omega, (by decide : 0 < 9), (by decide : 9 < 1000000)⟩ rfl rfl fun _ _ p => p)
      (xa_cons (M1 := [(q, CPen (n + 8))]) (xcq [] cTi hr (q, n + 1) (xa_cons (v 0) xa_nil) (by show n + 1 < 800000; omega) rfl rfl fun _ _ p => p)
        (xa_cons (M1 := [(q, CPen (n + 15))]) (xcq [] cTi hr (q, n + 8) (xa_cons (v 0) xa_nil) (by show n + 8 < 800000; omega) rfl rfl fun _ _ p => p) xa_nil))) ?_
  refine xs_open (i := 2) (f := fun d : Nat => d < 9) (Q := fun d => Vl (.int (d : Int))) rfl fun d hd => ?_
  refine xs_open (i := 3) (f := fun t : Nat => 1 ≤ t ∧ t ≤ 1000000) (Q := fun t => Vl (.int (t : Int))) rfl fun t ht => ?_
  refine xs_open (i := 4) (f := fun t : Nat => 1 ≤ t ∧ t ≤ 1000000) (Q := fun t => Vl (.int (t : Int))) rfl fun u hu => ?_
  refine xs_asg (js := [5, 6, 7]) (P := Ls [Tx ws, Tx ws, Tx ws]) (M1 := [(q, CPen (n + 15 + 1 * (List.range 3).length))]) ?_ (xg_lst rfl (xgs_cons (xg_name (i := 5) scPa.nd rfl (.inl rfl)) (xgs_cons (xg_name (i := 6) scPa.nd rfl (.inl rfl)) (xgs_cons (xg_name (i := 7) scPa.nd rfl (.inl rfl)) xgs_nil)))) ?_
  · refine XLc.ls (xlcP (n := n + 15) (q := q) (own := [("_law_k", 9)]) 1 [9] (fun k : Nat => [some (Rf q), some (TL ws), some (Vl (.int (d : Int))), some (Vl (.int (t : Int))), some (Vl (.int (u : Int))), none, none, none, none, some (Vl (.int (k : Int))), none]) (List.range 3) (fun k => Vl (.int (k : Int))) (fun _ => Tx ws) rfl scPa.nd (xi_range (n := 3) (by rfl) T.range xe_int (by decide)) (blkOk_by (N := nPa) (sc := defScope sPa) (by decide +kernel)) (by rw [sizeLine_eq]; decide) (by decide)
      (fun k hk s H C cl fp => xg_name (i := 9) scPa.nd rfl (.inl rfl)) (fun i k hi hk s H C cl fp => ?_))
    have hi : i < 3 := hi
    exact xcq [] cPk (hr.mono (by omega)) (q, n + 15 + 1 * i, ws.map fun k => Vl (.str k)) (xa_cons (v 0) (xa_cons (v 1) xa_nil)) ⟨by show n + 15 + 1 * i < 1000000; omega, by show 0 < (ws.map _).length; rw [List.length_map]; omega, by show (ws.map _).length < 1000000; rw [List.length_map]; omega⟩ rfl rfl oneOf_tx
  show XS _ _ _ _ [some (Rf q), some (TL ws), some (Vl (.int (d : Int))), some (Vl (.int (t : Int))), some (Vl (.int (u : Int))), some (Tx ws), some (Tx ws), some (Tx ws), none, none, none] _ _
  refine xs_open (i := 5) (f := fun k : Str => k ∈ ws) (Q := fun k => Vl (.str k)) rfl fun a ha => ?_
  refine xs_open (i := 6) (f := fun k : Str => k ∈ ws) (Q := fun k => Vl (.str k)) rfl fun b hb => ?_
  refine xs_open (i := 7) (f := fun k : Str => k ∈ ws) (Q := fun k => Vl (.str k)) rfl fun c hc => ?_
  show XS _ _ _ _ [some (Rf q), some (TL ws), some (Vl (.int (d : Int))), some (Vl (.int (t : Int))), some (Vl (.int (u : Int))), some (Vl (.str a)), some (Vl (.str b)), some (Vl (.str c)), none, none, none] _ _
  have m18 : n + 15 + 1 * (List.range 3).length = n + 18 := rfl
  rw [m18]
  have w18 : ∀ H0 H, MO [(q, CPen (n + 18))] H0 H → MO [(q, CPen (n + 120))] H0 H := mo_w (pen_w (by omega))
  have ht0 : (0 : Int) ≤ (t : Int) ∧ (t : Int) ≤ ((1000000 : Nat) : Int) := ⟨by omega, by have := ht.2; omega⟩
  have hu0 : (0 : Int) ≤ (u : Int) ∧ (u : Int) ≤ ((1000000 : Nat) : Int) := ⟨by omega, by have := hu.2; omega⟩
  have one (k : Str) (hk : k ∈ ws) (z : Int) (hz : 0 ≤ z ∧ z ≤ ((1000000 : Nat) : Int)) : Dn 1000000 ws (mk Prod.fst Prod.snd [(k, z)]) := dn_us fun p hp => by
    rw [List.mem_singleton.mp hp]
    exact ⟨hk, hz⟩
  have two (k : Str) (hk : k ∈ ws) (z : Int) (hz : 0 ≤ z ∧ z ≤ ((1000000 : Nat) : Int)) (k2 : Str) (hk2 : k2 ∈ ws) (z2 : Int) (hz2 : 0 ≤ z2 ∧ z2 ≤ ((1000000 : Nat) : Int)) : Dn 1000000 ws (mk Prod.fst Prod.snd [(k, z), (k2, z2)]) := dn_us fun p hp => by
    rcases List.mem_cons.mp hp with e | hp
    · rw [e]
      exact ⟨hk, hz⟩
    · rw [List.mem_singleton.mp hp]
      exact ⟨hk2, hz2⟩
  have h1 : (0 : Int) ≤ 1 ∧ (1 : Int) ≤ ((1000000 : Nat) : Int) := by decide
  refine xs_when (M1 := [(q, CPen (n + 18))]) (xt_cmp op_lt (rv_i0 (i := (d : Int)) (j := 2)) (v 2) xe_int (nomark _)) (fun _ => ?_) (fun _ => ?_)
  · exact xs_done hrt (xe_tup (xa_cons (xe_d1' (v 5) (v 3)) (xa_cons (xe_d1' (v 6) (v 3)) xa_nil)) sl2) (pd_w (one a ha _ ht0) (one b hb _ ht0)) w18
  refine xs_when (M1 := [(q, CPen (n + 18))]) (xt_cmp op_eq (rv_eqI (i := (d : Int)) (j := 2)) (v 2) xe_int (nomark _)) (fun _ => ?_) (fun _ => ?_)
  · exact xs_done hrt (xe_tup (xa_cons (xe_d1' (v 5) (v 3)) (xa_cons (xe_d1' (v 6) xe_int) xa_nil)) sl2) (pd_w (one a ha _ ht0) (one b hb _ h1)) w18
  refine xs_when (M1 := [(q, CPen (n + 18))]) (xt_cmp op_eq (rv_eqI (i := (d : Int)) (j := 3)) (v 2) xe_int (nomark _)) (fun _ => ?_) (fun _ => ?_)
  · exact xs_done hrt (xe_tup (xa_cons (xe_d2 (v 5) (v 3) (v 6) (v 4)) (xa_cons (xe_d1' (v 7) xe_int) xa_nil)) sl2) (pd_w (two a ha _ ht0 b hb _ hu0) (one c hc _ h1)) w18
  refine xs_when (M1 := [(q, CPen (n + 18))]) (xt_cmp op_lt (rv_i0 (i := (d : Int)) (j := 6)) (v 2) xe_int (nomark _)) (fun _ => ?_) (fun _ => ?_)
  · exact xs_done hrt (xe_tup (xa_cons (xe_d1' (v 5) (v 3)) (xa_cons (xe_d1' (v 6) (v 4)) xa_nil)) sl2) (pd_w (one a ha _ ht0) (one b hb _ hu0)) w18
  refine xs_when (M1 := [(q, CPen (n + 18))]) (xt_cmp op_eq (rv_eqI (i := (d : Int)) (j := 6)) (v 2) xe_int (nomark _)) (fun _ => ?_) (fun _ => ?_)
  · exact xs_done hrt (xe_tup (xa_cons (xe_d1' (v 5) (v 3)) (xa_cons (xe_d2 (v 5) (v 3) (v 6) (v 4)) xa_nil)) sl2) (pd_w (one a ha _ ht0) (two a ha _ ht0 b hb _ hu0)) w18
  refine xs_lc (i := 8) (Ps := [ExP (Dn 1000000 ws) Dc, ExP (Dn 1000000 ws) Dc]) (M' := [(q, CPen (n + 18 + 8 * ws.length * (List.range 2).length))]) ?_ rfl rfl ?_ (sw_true rfl rfl rfl (by decide +kernel))
  · refine xlcP (n := n + 18) (q := q) (own := [("_law_k", 9)]) (8 * ws.length) [9] (fun k : Nat => [some (Rf q), some (TL ws), some (Vl (.int (d : Int))), some (Vl (.int (t : Int))), some (Vl (.int (u : Int))), some (Vl (.str a)), some (Vl (.str b)), some (Vl (.str c)), none, some (Vl (.int (k : Int))), none]) (List.range 2) (fun k => Vl (.int (k : Int))) (fun _ => ExP (Dn 1000000 ws) Dc) rfl scPa.nd (xi_range (n := 2) (by rfl) T.range xe_int (by decide)) (blkOk_by (N := nPa) (sc := defScope sPa) (by decide +kernel)) (by rw [sizeLine_eq]; decide) (by decide)
      (fun k hk s H C cl fp => xg_name (i := 9) scPa.nd rfl (.inl rfl)) (fun i k hi hk s H C cl fp => ?_)
    have hi : i < 2 := hi
    have e1 : 8 * ws.length * (i + 1) = 8 * ws.length * i + 8 * ws.length := Nat.mul_succ _ _
    have e2 : 8 * ws.length * i ≤ 48 * 1 := Nat.mul_le_mul (by omega) (by omega)
    refine XE.pen (n := n + 18 + 8 * ws.length * i + (1 + 7) * ws.length) (xe_callTy (call_dictP rfl) (rc_dictR (n := ws.length)) (by rfl) T.dict bt_dict (xa_cons (XEm.lsX (XLc.xem (xlcT (n := n + 18 + 8 * ws.length * i) (q := q) (own := [("_law_word", 10)]) 1 7 [10] (fun k' : Str => [some (Rf q), some (TL ws), some (Vl (.int (d : Int))), some (Vl (.int (t : Int))), some (Vl (.int (u : Int))), some (Vl (.str a)), some (Vl (.str b)), some (Vl (.str c)), none, some (Vl (.int (k : Int))), some (Vl (.str k'))]) ws (fun k' => Vl (.str k')) (Tp [Tx ws, II fun z => 0 ≤ z ∧ z ≤ ((1000000 : Nat) : Int)]) rfl scPa.nd (xi_list (v 1)) (blkOk_by (N := nPa) (sc := relS csPa (defScope sPa)) (by decide +kernel)) (len64 (by omega)) (by decide)
      (fun k hk s H C cl fp => xg_name (i := 10) scPa.nd rfl (.inl rfl)) (fun m x hm hx s H C cl fp => ?_) (fun m x hm hx s H C cl fp => ?_)))) xa_nil)) (by omega)
    · have hm : m < 800000 := by omega
      exact xts_one (xt_cmpX op_eq (P1 := Dg 2) (P2 := Vl (.int 0)) (fun x y H H0 s ⟨d, hd, p1⟩ p2 Q k => rv_eqI (i := d) (j := 0) x y H H0 s p1 p2 Q fun z H' H0' g pz => k z H' H0' g ⟨_, trivial, pz⟩) (xcq [] cDr (hr.mono (by omega)) (q, m, 2) (xa_cons (v 0) (xa_cons xe_int xa_nil)) ⟨by show m < 1000000; omega, (by decide : 0 < 2), (by decide : 2 < 1000000)⟩ rfl rfl fun _ _ p => p) xe_int (nomark _))
    · have hm : m < 790000 := by omega
      exact xe_tup (xa_cons (P := Tx ws) (M1 := [(q, CPen (m + 1))]) (XE.w (P := Vl (.str x)) (v 10) fun v H p => ⟨x, hx, p⟩) (xa_cons (xcq [] cTi hr (q, m + 1) (xa_cons (v 0) xa_nil) (by show m + 1 < 800000; omega) rfl rfl fun v H ⟨t, ht, p⟩ => ⟨(t : Int), ⟨by omega, by have := ht.2; omega⟩, p⟩) xa_nil)) sl2
  · have e3 : 8 * ws.length * (List.range 2).length ≤ 48 * 2 := Nat.mul_le_mul (by omega) (by decide)
    exact xs_done (P := Tp [ExP (Dn 1000000 ws) Dc, ExP (Dn 1000000 ws) Dc]) hrt (xe_tup (xa_cons (xe_ix ix_list (fun _ _ => rfl) (rv_ixL (n := 0) rfl) (v 8) xe_int) (xa_cons (xe_ix ix_list (fun _ _ => rfl) (rv_ixL (n := 1) rfl) (v 8) xe_int) xa_nil)) sl2) (fun v H p => by
      obtain ⟨a, vs, e, ha, hv⟩ := p
      match vs, hv with
      | [x, y], ⟨⟨d1, h1, p1⟩, ⟨d2, h2, p2⟩, _⟩ => exact ⟨(d1, d2), ⟨h1, h2⟩, a, [x, y], e, ha, p1, p2, trivial⟩) (mo_w (pen_w (by show _ ≤ n + 120; omega)))
end
end Y
/-! text ZG -/
set_option Elab.async false
set_option linter.all false
set_option maxRecDepth 100000
namespace Y
open PySem PySem.Spec PyProof.Rows L2 Mt
section
variable {X : Cx} {elt tg e : Expr} {G : Gam} {q : Addr} {n : Nat}
/-- a map over the range of a drawn number, that draws: c draws at most for each item -/
theorem xlcD {scope : Scope} {own : List (Str × Nat)} {p1 p2 : Pos} {R' : VP} (c m : Nat) (js : List Nat) (G2 : Nat → Gam) (hc : X.calm = true) (hN : X.N.Nodup) (hgl : Gl X "range") (hmr : X.mg "range" = none) (he0 : XE X [] e G [(q, CPen n)] (Dg m) [(q, CPen (n + 1))]) (hm : m < 16777216) (ok : BlkOk X.N X.env.scope scope own)
    (hj : ∀ j ∈ js, j ∈ own.map (·.2)) (hg : ∀ x : Nat, ∀ s H C cl fp, XG1 (bk X scope s H C cl fp) [] tg js (Vl (.int (x : Int))) (wipeG G (own.map (·.2))) (G2 x))
    (he : ∀ i, i < m → ∀ s H C cl fp, XE (bk X scope s H C cl fp) [] elt (G2 i) [(q, CPen (n + 1 + c * i))] R' [(q, CPen (n + 1 + c * (i + 1)))])
    (hs : starEach [e] X.env = [(false, eval e X.env)] := by rfl) (hfs : ∀ x, foldedSetIterable (.Call (.Name "range" p1) [e] [] p2) X.env x = pure x := by intro _; rfl) :
    XLc X [] elt tg (.Call (.Name "range" p1) [e] [] p2) [] scope G [(q, CPen n)] (CEx (fun k : Nat => k < m) fun k => CLs (List.replicate k R')) [(q, CPen (n + 1 + c * m))] := by
  have hwi := pi_range1 (X := X) (tg := tg) (p := p1) (pos := p2) hgl hmr (pa_cons (pW (e := e)) pa_nil hs) hs
  let g : TG := fun v σ H Q => ∀ s Hb C cl fp, tWg (bk X scope s Hb C cl fp) tg v σ H Q
  let te : TE := fun σ H Q => ∀ s Hb C cl fp, tW (bk X scope s Hb C cl fp) elt σ H Q
  refine ⟨rfl, tLc (iRng1 _) g tYes te (own.map (·.2)), fun pos => pe_lc hc hN hwi ok (fun s Hb C cl fp => ⟨fun pins sh σ H v u Q I r h => h s Hb C cl fp pins sh u I r⟩) (fun s Hb C cl fp => pts_nil) (fun s Hb C cl fp => ⟨fun pins sh σ H Q I h => h s Hb C cl fp pins sh I⟩) hfs,
    fun i y py pos spos hy hyl hsw => ps_setLc hc hN hy hyl hsw hwi ok (fun s Hb C cl fp => ⟨fun pins sh σ H v u Q I r h => h s Hb C cl fp pins sh u I r⟩) (fun s Hb C cl fp => pts_nil) (fun s Hb C cl fp => ⟨fun pins sh σ H Q I h => h s Hb C cl fp pins sh I⟩) hfs,
    fun σ H H0 s l mm Q k => ?_⟩
  refine he0.then_ s l mm fun v H1 H01 g1 s1 l1 m1 ⟨d, hd, ev⟩ => ?_
  have ev : v = .int (d : Int) := ev
  have hd : d < m := hd
  subst ev
  refine ⟨(d : Int), rfl, by omega, by omega, ?_⟩
  rw [Int.toNat_natCast]
  have w : Walk (Itr 0 d) d (fun _ => True) (YFn fun i => .int (0 + (i : Int))) := walk_range
  intro D hD
  have hD0 : H01 D = none := g1.sub.no hD
  refine lc_it w (fun i H' => ∃ H0', Grow [] [q] H01 H1 H0' H' ∧ MO ([(q, CPen (n + 1 + c * i))] ++ [(D, CLs (List.replicate i R'))]) H0' H') ?_ ?_ ?_ ?_
  · refine ⟨H01, ?_, ?_⟩
    · have g2 : Grow [] [q] H01 H1 H01 H1 := .refl g1.sub
      exact g2.write hD0 (.inr hD)
    · refine ⟨?_, fun c hc => ?_⟩
      · rw [ads_app]
        refine List.nodup_append.mpr ⟨m1.1, by simp [ads], fun x hx y hy e => ?_⟩
        have hy : y = D := by simpa [ads] using hy
        subst hy e
        exact (m1.at_ hx).2 hD
      · rcases List.mem_append.mp hc with z | z
        · have z := List.mem_singleton.mp z
          subst z
          obtain ⟨k1, u, k2, k3⟩ := m1.2 _ (.head _)
          exact ⟨k1, u, by rw [upd_ne (ne_of_none k2 hD)]; exact k2, k3⟩
        · have z := List.mem_singleton.mp z
          subst z
          exact ⟨hD0, _, upd_same, [], rfl, trivial⟩
  · exact fun _ _ _ _ => trivial
  · rintro i z H' H'' hi' ⟨H0', g', m'⟩ hy
    obtain ⟨rfl, hz⟩ := hy
    have fr : ∀ b ∈ [q], b ∈ [q] ∨ H1 b = none := fun b hb => .inl hb
    have lw : SL (wipeG G (own.map (·.2))) (L2.wipe σ (own.map (·.2))) H0' := ((l.mono g1.pure).mono g'.pure).wipe _
    have pz : (Vl (.int (i : Int))).p z H0' := by
      rw [hz]
      show V.int (0 + (i : Int)) = V.int (i : Int)
      rw [Int.zero_add]
    intro s' Hb C' cl fp
    refine (hg i s' Hb C' cl fp).run z _ H'' H0' g'.sub lw pz _ fun σ2 l2 e2 k2 => ⟨?_, ?_⟩
    · refine wipe_eq ?_ hj k2
      rw [e2, wipe_length]
    · unfold tYes
      dsimp only
      rw [if_pos rfl]
      intro s' Hb C' cl fp
      have hh := he i (Nat.lt_trans hi' hd) s' Hb C' cl fp
      refine hh.run σ2 H'' H0' g'.sub l2 m'.left _ fun y H4 H04 g4 m4 py => ?_
      have m4' : MO ([(q, CPen (n + 1 + c * (i + 1)))] ++ [(D, CLs (List.replicate i R'))]) H04 H4 := m'.join g4 m4 hh.ad
      obtain ⟨q1, o, q2, vs, ev, hvs⟩ := m4'.2 (D, CLs (List.replicate i R')) (List.mem_append_right _ (List.mem_singleton.mpr rfl))
      have q2 : H4 D = some o := q2
      subst ev
      refine ⟨vs, q2, by rw [hvs.len, List.length_replicate, sizeLine_eq]; omega, H04, ?_, ?_⟩
      · have gE : Grow [] [q] H01 H1 H04 H4 := g'.trans g4 fun b hb => .inl hb
        exact gE.write q1 (.inr hD)
      · exact m4'.write ⟨_, rfl, by rw [List.replicate_succ']; exact hvs.app (AllP.one py)⟩
  · rintro H' ⟨H0', g', m'⟩
    have hDn : H D = none := by
      cases q : H D with
      | none => rfl
      | some o => exact absurd hD (g1.live D (by rw [q]; simp))
    refine k D H' H0' (g1.trans g' fun b hb => .inl hb) ⟨m'.1, fun c hc => ?_⟩ hDn
    rcases List.mem_append.mp hc with hc | hc
    · have hc := List.mem_singleton.mp hc
      subst hc
      obtain ⟨u1, o, u2, u3⟩ := m'.2 (q, CPen _) (List.mem_append_left _ (.head _))
      exact ⟨u1, o, u2, pen_w (Nat.add_le_add_left (Nat.mul_le_mul_left _ (Nat.le_of_lt hd)) _) _ _ u3⟩
    · have hc := List.mem_singleton.mp hc
      subst hc
      obtain ⟨u1, o, u2, u3⟩ := m'.2 (D, _) (List.mem_append_right _ (.head _))
      exact ⟨u1, o, u2, d, hd, u3⟩
end
end Y
/-! text ZH -/
set_option Elab.async false
set_option linter.all false
set_option maxRecDepth 100000
namespace Y
open PySem PySem.Spec PyProof.Rows L2 Mt
/-- small letters, at most n -/
structure Lw (n : Nat) (z : Str) : Prop where
  l : z.length ≤ n
  c : ∀ x ∈ z.cps.toList, 97 ≤ x ∧ x ≤ 122
theorem lw_app {n m : Nat} {a b : Str} (h : Lw n a) (h' : Lw m b) : Lw (n + m) (a ++ b) := ⟨by rw [Str.length_append]; exact Nat.add_le_add h.l h'.l, fun x hx => by
  have e : (a ++ b).cps.toList = a.cps.toList ++ b.cps.toList := TL.tl_append a b
  rw [e] at hx
  rcases List.mem_append.mp hx with hx | hx
  · exact h.c x hx
  · exact h'.c x hx⟩
theorem cutS_c {n : Nat} {z : Str} (h : Lw n z) (lo hi : Option Int) : ∀ x ∈ (cutS z lo hi).cps.toList, 97 ≤ x ∧ x ≤ 122 := fun x hx => by
  unfold cutS at hx
  rw [List.toList_toArray] at hx
  exact h.c x (List.mem_of_mem_drop (List.mem_of_mem_take hx))
theorem lw_cut {n : Nat} {z : Str} (h : Lw n z) (lo hi : Option Int) : Lw n (cutS z lo hi) := ⟨Nat.le_trans (cutS_length z lo hi) h.l, cutS_c h lo hi⟩
theorem lw_to {n : Nat} {z : Str} (h : Lw n z) (i : Nat) : Lw i (cutS z none (some (i : Int))) := ⟨by
  show (((z.cps.toList.drop (HT.sIx z.length 0 none)).take (HT.sIx z.length z.length (some (i : Int)) - HT.sIx z.length 0 none)).toArray).size ≤ i
  rw [List.size_toArray, List.length_take, HT.sIx_nat, HT.sIx_none]
  omega, cutS_c h _ _⟩
theorem lw_from {n : Nat} {z : Str} (h : Lw n z) (i : Nat) (hi : i ≤ z.length) : Lw (z.length - i) (cutS z (some (i : Int)) none) := ⟨by
  show (((z.cps.toList.drop (HT.sIx z.length 0 (some (i : Int)))).take (HT.sIx z.length z.length none - HT.sIx z.length 0 (some (i : Int)))).toArray).size ≤ z.length - i
  rw [List.size_toArray, List.length_take, HT.sIx_nat, HT.sIx_none]
  omega, cutS_c h _ _⟩
theorem letters_c : ∀ c ∈ letters.cps.toList, 97 ≤ c ∧ c ≤ 122 := by decide +kernel
theorem letters_len : letters.length = 26 := by decide +kernel
theorem lw_sign {c : Nat} (h : c ∈ letters.cps.toList) : Lw 1 ⟨#[c]⟩ := ⟨Nat.le_refl _, fun x hx => by
  have hx : x ∈ [c] := hx
  rw [List.mem_singleton.mp hx]
  exact letters_c c h⟩
theorem joinL_nil : ∀ (ps : List (List Nat)) (c : Nat), c ∈ TL.joinL [] ps → ∃ p ∈ ps, c ∈ p
  | [], c, h => by cases h
  | [p], c, h => ⟨p, .head _, h⟩
  | p :: q :: r, c, h => by
    have h : c ∈ p ++ ([] ++ TL.joinL [] (q :: r)) := h
    rw [List.nil_append] at h
    rcases List.mem_append.mp h with h | h
    · exact ⟨p, .head _, h⟩
    · obtain ⟨u, hu, hc⟩ := joinL_nil (q :: r) c h
      exact ⟨u, .tail _ hu, hc⟩
theorem lw_join {ys : List Str} (h : ∀ y ∈ ys, Lw 1 y) : Lw ys.length (Txt.join (Str.ofString "") ys) := by
  have e : Txt.join (Str.ofString "") ys = Str.join (Str.ofString "") ys := StrLaws.glued_eq_join ..
  rw [e]
  refine ⟨?_, fun c hc => ?_⟩
  · have h1 := StrLaws.join_length_le (Str.ofString "") ys
    have h2 : (Str.ofString "").length = 0 := by decide
    rw [h2, Nat.mul_zero, Nat.add_zero] at h1
    refine Nat.le_trans h1 ?_
    have := sum_le (l := ys.map (·.length)) (n := 1) (fun x hx => by
      obtain ⟨y, hy, e⟩ := List.mem_map.mp hx
      rw [← e]
      exact (h y hy).l)
    rw [List.length_map] at this
    omega
  · have e2 : (Str.join (Str.ofString "") ys).cps.toList = TL.joinL [] (ys.map fun y => y.cps.toList) := TL.tl_join _ ys
    rw [e2] at hc
    obtain ⟨p, hp, hc⟩ := joinL_nil _ _ hc
    obtain ⟨y, hy, rfl⟩ := List.mem_map.mp hp
    exact (h y hy).c c hc
section
variable {X : Cx} {L : List Addr} {e a b lo hi : Expr} {G : Gam} {M M1 M2 : Ml} {pos p2 : Pos} {z : Str} {i : Int}
theorem xe_sfrom (he : XE X L e G M (Vl (.str z)) M1) (hl : XE X L lo G M1 (Vl (.int i)) M2) (hz : z.length ≤ sizeLine) : XE X L (.Subscript e (.Slice (some lo) none none p2) pos) G M (Vl (.str (cutS z (some i) none))) M2 :=
  .of (pe_slice sl_str pW (po_some pW) po_none) (hl.ad.trans he.ad) fun σ H H0 s l m Q k => he.then_ s l m fun x H1 H01 g1 s1 l1 m1 ex => hl.then_ s1 l1 m1 fun y H2 H02 g2 s2 l2 m2 ey =>
    ⟨i, ey, z, ex, hz, k _ H2 H02 (g1.tr (by rw [← he.ad]; exact g2)) m2 rfl⟩
theorem xe_sto (he : XE X L e G M (Vl (.str z)) M1) (hl : XE X L hi G M1 (Vl (.int i)) M2) (hz : z.length ≤ sizeLine) : XE X L (.Subscript e (.Slice none (some hi) none p2) pos) G M (Vl (.str (cutS z none (some i)))) M2 :=
  .of (pe_slice sl_str pW po_none (po_some pW)) (hl.ad.trans he.ad) fun σ H H0 s l m Q k => he.then_ s l m fun x H1 H01 g1 s1 l1 m1 ex => hl.then_ s1 l1 m1 fun y H2 H02 g2 s2 l2 m2 ey =>
    ⟨i, ey, z, ex, hz, k _ H2 H02 (g1.tr (by rw [← he.ad]; exact g2)) m2 rfl⟩
theorem rv_addS {x y : Str} (h : x.length + y.length ≤ sizeLine) : RV L (fun x y H Q => ∃ i j, x = .str i ∧ y = .str j ∧ i.length + j.length ≤ sizeLine ∧ Q (.str (i ++ j)) H) (Vl (.str x)) (Vl (.str y)) (Vl (.str (x ++ y))) := rv_of fun u v H H0 s p1 p2 Q k => ⟨x, y, p1, p2, h, k _ rfl⟩
/-- signs named -/
theorem signs_of {m : Nat} : ∀ {vs : List V} {H : Hp}, AllP H vs (List.replicate m (Sg letters)) → ∃ ys : List Str, ys.length = m ∧ (∀ y ∈ ys, Lw 1 y) ∧ vs = ys.map V.str := by
  induction m with
  | zero => exact fun {vs H} h => match vs, h with | [], _ => ⟨[], rfl, (fun _ h => by cases h), rfl⟩
  | succ m ih =>
    intro vs H h
    match vs, h with
    | v :: vs, ⟨⟨c, hc, hv⟩, h2⟩ =>
      obtain ⟨ys, i1, i2, i3⟩ := ih h2
      have hv : v = .str ⟨#[c]⟩ := hv
      refine ⟨⟨#[c]⟩ :: ys, by rw [List.length_cons, i1], fun u hu => ?_, by rw [List.map_cons, i3, hv]⟩
      rcases List.mem_cons.mp hu with e | hu
      · rw [e]; exact lw_sign hc
      · exact i2 u hu
/-- "".join of drawn signs -/
theorem xe_joinX {n : Nat} {o : Expr} {apos : Pos} (hn : n < 1000) (ho : XE X L o G M (Vl (.str (Str.ofString ""))) M1) (he : XE X L e G M1 (ExP (fun k : Nat => k < n + 1) fun k => Ls (List.replicate k (Sg letters))) M2) (hs : starEach [e] X.env = [(false, eval e X.env)] := by rfl) (hbase : attributeBase o "join" X.env (eval o X.env) = eval o X.env := by rfl) (hline : (apos.endLine == pos.line) = true := by rfl) :
    XE X L (.Call (.Attribute o "join" apos) [e] [] pos) G M (ExP (Lw n) fun z => Vl (.str z)) M2 :=
  .of (pe_join pW pW hs hbase hline) (he.ad.trans ho.ad) fun σ H H0 s l m Q k => ho.then_ s l m fun x H1 H01 g1 s1 l1 m1 ex => ⟨⟨_, ex⟩, he.then_ s1 l1 m1 fun y H2 H02 g2 s2 l2 m2 ⟨d, hd, p, vs, ey, hp, hv⟩ => by
    obtain ⟨ys, y1, y2, y3⟩ := signs_of hv
    subst y3
    have h1 := lw_join y2
    refine ⟨_, p, ys, ex, by rw [ey], .inl (SqL.of (s2.lst hp)), ?_, k _ H2 H02 (g1.tr (by rw [← ho.ad]; exact g2)) m2 ⟨_, ⟨by have := h1.l; omega, h1.c⟩, rfl⟩⟩
    have h2 : (Str.ofString "").length = 0 := by decide
    have := sum_le (l := ys.map (·.length)) (n := 1) (fun x hx => by
      obtain ⟨y, hy, e⟩ := List.mem_map.mp hx
      rw [← e]
      exact (y2 y hy).l)
    rw [List.length_map] at this
    rw [h2]
    omega⟩
end
section
variable {X : Cx} {L : List Addr} {a b : Expr} {G : Gam} {M M1 M2 : Ml} {P1 : VP} {pos : Pos} {i j : Nat} {x y : Str} {B : Bs} {D : Ends} {rest : List Stmt} {C : CP} {q : Addr} {Ps : List VP}
/-- x, y = a, b: b a new cell -/
theorem xs_parM {px py pt : Pos} {kt k2 pt2} (hc : X.calm = true) (hN : X.N.Nodup) (hi : X.N[i]? = some x) (hj : X.N[j]? = some y) (hij : i ≠ j)
    (hx : X.env.scope.names.lookup x = some .local) (hy : X.env.scope.names.lookup y = some .local) (ha : XE X L a G M P1 M1) (hb : XEm X L b G M1 C M2)
    (hr : ∀ q, XS X L rest B ((G.set i (some P1)).set j (some (Rf q))) (M2 ++ [(q, C)]) D)
    (hw : swappedStores [.Tuple [.Name x px, .Name y py] kt pt] (.Tuple [a, b] k2 pt2) X.env = pure (some [x, y]) := by rfl)
    (hs : swapsWithSole [.Tuple [.Name x px, .Name y py] kt pt] (.Tuple [a, b] k2 pt2) pos.line X.env = pure false := by rfl)
    (h1 : starEach [a, b] X.env = (false, eval a X.env) :: starEach [b] X.env := by rfl) (h2 : starEach [b] X.env = (false, eval b X.env) :: starEach [] X.env := by rfl) :
    XS X L (.Assign [.Tuple [.Name x px, .Name y py] kt pt] (.Tuple [a, b] k2 pt2) pos :: rest) B G M D :=
  xs_of (ps_par hc hN hi hj hij hx hy (pa_cons pW (pa_cons pW pa_nil h2) h1) hw hs) fun σ H ⟨H0, g, l, m, f⟩ => ha.then_ g.sub l m fun v H1 H01 g1 s1 l1 m1 p1 => hb.run σ H1 H01 s1 l1 m1 _ fun q H2 H02 g2 m2 hq => by
    refine ⟨v, .ref q, rfl, (hr q).run _ H2 ⟨H02, g.trans (g1.tr (by rw [← ha.ad]; exact g2)) f, ((l1.mono g2.pure).set (P1.mono _ _ _ g2.pure p1)).set rfl, m2, fun b hb' => ?_⟩⟩
    rw [ads_app, hb.ad, ha.ad] at hb'
    rcases List.mem_append.mp hb' with z | z
    · exact f b z
    · have z : b = q := by simpa [ads] using z
      subst z
      cases e : B.h b with
      | none => exact .inr rfl
      | some o =>
        have := (g.trans g1 f).live b (by rw [e]; simp)
        exact absurd hq this
theorem xs_shutN {sts : List Stmt} {G' : Gam} (hB : B.A = ads M) (hG : ∀ (σ : St) H0 vs, SL G σ H0 → H0 q = none → AllP H0 vs Ps → SL G' σ (upd H0 q (.lst vs))) (h : XS X [] sts B G' M D) : XS X [] sts B G (M ++ [(q, CLs Ps)]) D := ⟨fun σ H st => by
  obtain ⟨H0, g, l, m, fr⟩ := st
  refine (xs_shut ?_ hG h).run σ H ⟨H0, g, l, m, fr⟩
  rw [hB]
  have := m.1
  rw [ads_app] at this
  intro hq
  exact (List.nodup_append.mp this).2.2 q hq q (by simp [ads]) rfl⟩
end
end Y
/-! text ZI -/
set_option Elab.async false
set_option linter.all false
set_option maxRecDepth 100000
namespace Y
open PySem PySem.Spec PyProof.Rows L2 Mt
section
variable {P : Program} {w : World} {K : PySem.W.Frag} {mg : Str → Option Value} {base : Heap}
abbrev sWo : Stmt := top 59
abbrev nWo : List Str := ["_law_pen_here", "_law_many", "_law_letters", "_law_k", "_law_stem", "_law_front", "_law_step", "_law_at", "_law_tail", "_law_found", "_law_sign"]
theorem scWo : FnScope nWo ["_law_pen_here", "_law_many"] (defScope sWo) := ⟨rfl, rfl, rfl, by decide +kernel, rfl, by decide +kernel, by decide +kernel⟩
abbrev okWs (m : Nat) (ws : List Str) : Prop := ws.length = m ∧ ∀ w ∈ ws, Wd w
abbrev spWo : Sp := spG (α := Addr × Nat × Nat) (fun y => y.2.1 < 700000 ∧ y.2.2 ≤ 6) (fun y => [Rf y.1, Vl (.int (y.2.2 : Int))]) (fun y => [(y.1, CPen y.2.1)]) (fun y => ExP (okWs y.2.2) TL) (fun y => [(y.1, CPen (y.2.1 + 12))])
abbrev stepP : List VP := [Vl (.int 1), Vl (.int 3), Vl (.int 5), Vl (.int 7), Vl (.int 9), Vl (.int 11), Vl (.int 15), Vl (.int 17)]
theorem step_ii : ∀ v H, (OneOf stepP).p v H → (II fun s => 0 ≤ s ∧ s ≤ 17).p v H := fun v H ⟨P, hP, p⟩ => by
  simp only [stepP, List.mem_cons, List.not_mem_nil, or_false] at hP
  rcases hP with rfl | rfl | rfl | rfl | rfl | rfl | rfl | rfl
  · exact ⟨1, by decide, p⟩
  · exact ⟨3, by decide, p⟩
  · exact ⟨5, by decide, p⟩
  · exact ⟨7, by decide, p⟩
  · exact ⟨9, by decide, p⟩
  · exact ⟨11, by decide, p⟩
  · exact ⟨15, by decide, p⟩
  · exact ⟨17, by decide, p⟩
theorem c_Wo (D : Dfn K mg "_law_words" sWo ["_law_pen_here", "_law_many"]) (T : Bt mg) (cDr : Cal P w K mg base 1 "_law_draw" ["_law_pen_here", "_law_many"] spDr) (cPk : Cal P w K mg base 2 "_law_pick" ["_law_pen_here", "_law_options"] spPk) (cPkS : Cal P w K mg base 2 "_law_pick" ["_law_pen_here", "_law_options"] spPkS) : Cal P w K mg base 3 "_law_words" ["_law_pen_here", "_law_many"] spWo := D.cal fun f fd F => by
  refine fn_ok F scWo (fun _ _ => rfl) ?_
  rintro ⟨q, n, m⟩ ⟨hn, hm⟩ cdv A outer s H E B D hB hr hrt hnx
  have hn : n < 700000 := hn
  have hm : m ≤ 6 := hm
  have lz : ∀ {k : Nat} {z : Str}, Lw k z → k ≤ 1000 → z.length ≤ sizeLine := fun h hk => by
    have := h.l
    rw [sizeLine_eq]
    omega
  refine xs_set (i := 2) (P := Vl (.str letters)) (M1 := [(q, CPen n)]) xe_str scWo.nd rfl (.inr rfl) ?_
  refine xs_set (i := 4) (P := ExP (Lw 7) fun z => Vl (.str z)) (M1 := [(q, CPen (n + 1 + 1 * 8))]) (xe_joinX (n := 7) (by decide) xe_str (XEm.lsX (XLc.xem (xlcD (n := n) (q := q) (own := [("_law_k", 3)]) (R' := Sg letters) 1 8 [3] (fun k => [some (Rf q), some (Vl (.int (m : Int))), some (Vl (.str letters)), some (Vl (.int (k : Int))), none, none, none, none, none, none, none]) rfl scWo.nd (by rfl) T.range
    (xcq [] cDr (hr.mono (by omega)) (q, n, 8) (xa_cons (v 0) (xa_cons xe_int xa_nil)) ⟨by show n < 1000000; omega, (by decide : 0 < 8), (by decide : 8 < 1000000)⟩ rfl rfl fun _ _ p => p) (by decide) (blkOk_by (N := nWo) (sc := defScope sWo) (by decide +kernel)) (by decide) (fun k s H C cl fp => xg_name (i := 3) scWo.nd rfl (.inl rfl)) (fun i hi s H C cl fp => ?_))))) scWo.nd rfl (.inl rfl) ?_
  · exact xcq [] cPkS hr (q, n + 1 + 1 * i, letters) (xa_cons (v 0) (xa_cons (v 2) xa_nil)) ⟨by show n + 1 + 1 * i < 1000000; omega, by show 0 < letters.length; rw [letters_len]; decide, by show letters.length < 1000000; rw [letters_len]; decide⟩ rfl rfl fun _ _ p => p
  refine xs_open (i := 4) (f := Lw 7) (Q := fun z => Vl (.str z)) rfl fun z hz => ?_
  have hz7 : z.length ≤ 7 := hz.l
  refine xs_par3 (i := 5) (j := 6) (k := 7) (P1 := Dg 26) (P2 := II fun s => 0 ≤ s ∧ s ≤ 17) (P3 := Dg (z.length + 1)) (M1 := [(q, CPen (n + 12))]) rfl scWo.nd rfl rfl rfl (by decide) (by decide) (by decide) rfl rfl rfl
    (xa_cons (M1 := [(q, CPen (n + 10))]) (xcq [] cDr (hr.mono (by omega)) (q, n + 9, 26) (xa_cons (v 0) (xa_cons xe_int xa_nil)) ⟨by show n + 9 < 1000000; omega, (by decide : 0 < 26), (by decide : 26 < 1000000)⟩ rfl rfl fun _ _ p => p)
      (xa_cons (M1 := [(q, CPen (n + 11))]) (xcq [] cPk hr (q, n + 10, stepP) (xa_cons (v 0) (xa_cons (xe_lst (xa_cons xe_int (xa_cons xe_int (xa_cons xe_int (xa_cons xe_int (xa_cons xe_int (xa_cons xe_int (xa_cons xe_int (xa_cons xe_int xa_nil)))))))) (by rw [sizeLine_eq]; exact (by decide : 8 ≤ 16777216))) xa_nil)) ⟨by show n + 10 < 1000000; omega, (by decide : 0 < 8), (by decide : 8 < 1000000)⟩ rfl rfl step_ii)
        (xa_cons (M1 := [(q, CPen (n + 12))]) (xcq [] cDr (hr.mono (by omega)) (q, n + 11, z.length + 1) (xa_cons (v 0) (xa_cons (XE.w (xe_op op_add (rv_i0 (i := (z.length : Int)) (j := 1)) (xe_callB call_len (rc_lenS (lz hz (by decide))) (by rfl) T.len bt_len (xa_cons (v 4) xa_nil)) xe_int) fun _ _ p => p) xa_nil)) ⟨by show n + 11 < 1000000; omega, by show 0 < z.length + 1; omega, by show z.length + 1 < 1000000; omega⟩ rfl rfl fun _ _ p => p) xa_nil))) ?_
  refine xs_open (i := 5) (f := fun d : Nat => d < 26) (Q := fun d => Vl (.int (d : Int))) rfl fun fr hfr => ?_
  refine xs_openI (i := 6) rfl fun st hst => ?_
  have hst : 0 ≤ st ∧ st ≤ 17 := hst
  refine xs_open (i := 7) (f := fun d : Nat => d < z.length + 1) (Q := fun d => Vl (.int (d : Int))) rfl fun at' hat => ?_
  have hat : at' < z.length + 1 := hat
  have hfr : fr < 26 := hfr
  generalize ht : cutS z (some (at' : Int)) none = tl
  have htl : Lw (z.length - at') tl := by
    rw [← ht]
    exact lw_from hz at' (by omega)
  have htl7 : tl.length ≤ 7 := by have := htl.l; omega
  refine xs_parM (i := 8) (j := 9) (P1 := Vl (.str tl)) (M1 := [(q, CPen (n + 12))]) (C := CLs []) (M2 := [(q, CPen (n + 12))]) rfl scWo.nd rfl rfl (by decide) rfl rfl (ht ▸ xe_sfrom (v 4) (v 7) (lz hz (by decide))) (xem_lst xa_nil (Nat.zero_le _)) fun qf => ?_
  refine xs_for (ι := List Str) PassesOwn.never rfl (xi_range (n := m) (by rfl) T.range (v 1) (by omega)) (fun i ws => okWs i ws) (fun i ws => [some (Rf q), some (Vl (.int (m : Int))), some (Vl (.str letters)), none, some (Vl (.str z)), some (Vl (.int (fr : Int))), some (Vl (.int st)), some (Vl (.int (at' : Int))), some (Vl (.str tl)), some (Rf qf), none]) (fun i ws => [(q, CPen (n + 12)), (qf, CLs (ws.map fun k => Vl (.str k)))]) ⟨[], ⟨rfl, fun _ h => by cases h⟩, (fun _ _ h => h), rfl, fun _ _ h => h⟩ (fun _ _ _ _ _ _ => MO.nil) ?_ ?_
  · rintro k ws Q B' bl hQ ⟨hl, hw⟩
    have hk : k < m := by
      have := (List.getElem?_eq_some_iff.mp hQ).1
      rw [rngP_len] at this
      exact this
    rw [rngP_at hk] at hQ
    cases hQ
    refine ⟨[3], _, xg_name (i := 3) scWo.nd rfl (.inl rfl), ?_⟩
    refine xs_asgX (js := [10]) (f := fun c : Nat => c ∈ letters.cps.toList) (Q := fun c : Nat => Vl (.str ⟨#[c]⟩)) (M1 := [(q, CPen (n + 12)), (qf, CLs (ws.map fun k => Vl (.str k)))]) (xe_ix ix_str (fun _ _ => rfl) (rv_exrW (f := fun d : Nat => d < 26) (Q := fun d => Vl (.int (d : Int))) (P3 := Sg letters) fun d hd => ?_) (v 2) (XE.w (xe_op op_mod (rv_i (i := (fr : Int) + st * (k : Int)) (j := 26) (by decide)) (xe_callTy call_int1 rc_int (by rfl) T.int PyProof.Rows.boot_int (xa_cons (xe_op op_add rv_i0 (v 5) (xe_op op_mulW (rv_i (i := st) (j := (k : Int)) (mulOk (a := 5) (b := 3) (by show _ ≤ 32; omega) (by show _ ≤ 8; omega) (by decide))) (v 6) (v 3))) xa_nil)) xe_int) fun v H p => ?_)) fun c hc => ?_
    · have hd : d < 26 := hd
      have hd' : d < letters.cps.toList.length := by rw [Array.length_toList]; show d < letters.length; rw [letters_len]; exact hd
      exact rv_of fun x y H H0 s p1 p2 Q k => ⟨letters, d, letters.cps.toList[d], p1, p2, by rw [letters_len, sizeLine_eq]; decide, atI_nat (List.getElem?_eq_getElem hd'), k _ ⟨_, List.getElem_mem hd', rfl⟩⟩
    · have p : v = .int (((fr : Int) + st * (k : Int)) % ((26 : Nat) : Int)) := p
      obtain ⟨d, h1, h2⟩ := dg_mod (z := (fr : Int) + st * (k : Int)) (m := 26) (by decide)
      exact ⟨d, h1, by rw [p, h2]; rfl⟩
    have hc : c ∈ letters.cps.toList := hc
    refine ⟨_, xg_name (i := 10) scWo.nd rfl (.inl rfl), ?_⟩
    have l1 : Lw at' (cutS z none (some (at' : Int))) := lw_to hz at'
    have l2 : Lw (at' + 1) (cutS z none (some (at' : Int)) ++ ⟨#[c]⟩) := lw_app l1 (lw_sign hc)
    have l3 : Lw (z.length - at') (cutS tl none (some ((tl.length : Int) - (k : Int) * (if decide ((k : Int) < 2) = true then 1 else 0)))) := lw_cut htl _ _
    have l4 := lw_app l2 l3
    have wd : Wd (cutS z none (some (at' : Int)) ++ ⟨#[c]⟩ ++ cutS tl none (some ((tl.length : Int) - (k : Int) * (if decide ((k : Int) < 2) = true then 1 else 0)))) := by
      refine ⟨?_, by have := l4.l; omega, l4.c⟩
      rw [Str.length_append, Str.length_append]
      have : (⟨#[c]⟩ : Str).length = 1 := rfl
      omega
    have s1 := l1.l
    have s2 := l2.l
    have s3 := l3.l
    generalize ew : cutS z none (some (at' : Int)) ++ ⟨#[c]⟩ ++ cutS tl none (some ((tl.length : Int) - (k : Int) * (if decide ((k : Int) < 2) = true then 1 else 0))) = w0 at wd
    refine xs_expr (P := Vl .non) (M1 := [(q, CPen (n + 12)), (qf, CLs ((ws ++ [w0]).map fun k => Vl (.str k)))]) ?_ (xs_nil fun σ H h => ⟨ws ++ [w0], ⟨by rw [List.length_append, hl]; rfl, fun w hw' => ?_⟩, (h.unset 3).unset 10⟩)
    rotate_left
    · rcases List.mem_append.mp hw' with hw' | hw'
      · exact hw w hw'
      · rw [List.mem_singleton.mp hw']
        exact wd
    rw [List.map_append]
    refine xe_app (P := Vl (.str w0)) (Ma := [(q, CPen (n + 12))]) (Mb := []) (v 9) (ew ▸ xe_op op_add_str (rv_addS (by rw [sizeLine_eq]; omega)) (xe_op op_add_str (rv_addS (by rw [sizeLine_eq]; show _ + 1 ≤ _; omega)) (xe_sto (v 4) (v 7) (lz hz (by decide))) (v 10)) (xe_sto (v 8) (xe_op op_sub rv_i0 (xe_callB call_len (rc_lenS (lz htl (by omega))) (by rfl) T.len bt_len (xa_cons (v 8) xa_nil)) (xe_op op_mulW (rv_i (i := (k : Int)) (j := if decide ((k : Int) < 2) = true then 1 else 0) (mulOk (a := 3) (b := 1) (by show _ ≤ 8; omega) (by show _ ≤ 2; split <;> decide) (by decide))) (v 3) (xe_callTy call_int1 rc_intB (by rfl) T.int PyProof.Rows.boot_int (xa_cons (xe_cmp op_lt (rv_i0 (i := (k : Int)) (j := 2)) (v 3) xe_int (nomark _)) xa_nil)))) (lz htl (by omega)))) ⟨_, .tail _ (.head _), fun o H ⟨vs, e, _⟩ => ⟨vs, e⟩⟩ (by rw [List.length_map, sizeLine_eq]; omega)
  · rintro ws hws
    have hws : okWs (rngP m).length ws := hws
    rw [rngP_len] at hws
    refine xs_shutN (M := [(q, CPen (n + 12))]) (G' := [some (Rf q), some (Vl (.int (m : Int))), some (Vl (.str letters)), none, some (Vl (.str z)), some (Vl (.int (fr : Int))), some (Vl (.int st)), some (Vl (.int (at' : Int))), some (Vl (.str tl)), some (TL ws), none]) hB (fun σ H0 vs l h1 h2 => ?_) ?_
    · refine sl_shut (P := TL ws) l h1 9 rfl ⟨qf, vs, rfl, upd_same, ?_⟩
      have sm : Same H0 (upd H0 qf (.lst vs)) := fun b u e => by
        rw [upd_ne (ne_of_none e h1)]
        exact e
      exact h2.mono sm
    · exact xs_done hrt (v 9) (fun v H p => ⟨ws, hws, p⟩)
end
end Y
/-! text ZJ -/
set_option Elab.async false
set_option linter.all false
set_option maxRecDepth 100000
namespace Y
open PySem PySem.Spec PyProof.Rows L2 Mt
/-- a call, the arguments a choice -/
theorem xcX {X : Cx} {e : Expr} {G : Gam} {M M1 M2 : Ml} {P' : VP} {pos : Pos} {x : Str} {α β : Type} {pre : α → Prop} {As : α → List VP} {Mi Mo : α → Ml} {R : α → VP} {k : Nat} {ps : List Str} {es : List Expr} {p : Pos} {Ps : List VP} (Mf : Ml) (C : Cal X.prog X.w X.K X.mg X.base k x ps (spG pre As Mi R Mo)) (hr : Room k X.A) (ok : β → Prop) (yy : β → α) (ha : XA X [] (e :: es) G M Ps M1)
    (hch : ∀ vs H, AllP H vs Ps → ∃ b, ok b ∧ AllP H vs (As (yy b))) (hpre : ∀ b, ok b → pre (yy b)) (hM1 : ∀ b, ok b → M1 = Mi (yy b) ++ Mf) (hM2 : ∀ b, ok b → M2 = Mo (yy b) ++ Mf) (hw : ∀ b, ok b → ∀ v H, (R (yy b)).p v H → P'.p v H) (had : ∀ y, ads (Mo y) = ads (Mi y) := by intro _; rfl) (hadM : ads M2 = ads M1 := by rfl) (hg : Gl X x := by rfl)
    (hdb : (x == ("__debug__" : Str)) = false := by decide) (he : starEach (e :: es) X.env = (false, eval e X.env) :: starEach es X.env := by rfl) (hpl : (backTo pos (starEach es X.env)).any (·.1) = false := by rfl) : XE X [] (.Call (.Name x p) (e :: es) [] pos) G M P' M2 := by
  obtain ⟨f, fd, F, g, kp, bn⟩ := C.ex
  refine .of (pe_call F hr hg g kp bn .nil pass0 pWa hdb he hpl) (hadM.trans ha.ad) fun σ H H0 s l m Q k => ?_
  refine ha.then_ s l m fun vs H1 H01 g1 s1 l1 m1 p1 => ?_
  rw [List.append_nil]
  obtain ⟨b, hb, p2⟩ := hch vs H01 p1
  have e1 := hM1 b hb
  have e2 := hM2 b hb
  subst e1
  subst e2
  exact sp_use (yy b) (hpre b hb) (had _) s1 m1 p2 fun v H' H0' g m' p => k v H' H0' (g1.tr (by rw [← ha.ad]; exact g)) m' (hw b hb v H0' p)
theorem ls_pick {α : Type} {f : α → Prop} {R : α → VP} : ∀ {m : Nat} {vs : List V} {H : Hp}, AllP H vs (List.replicate m (ExP f R)) → ∃ xs : List α, xs.length = m ∧ (∀ x ∈ xs, f x) ∧ AllP H vs (xs.map R) := by
  intro m
  induction m with
  | zero => exact fun {vs H} h => ⟨[], rfl, (fun _ h => by cases h), h⟩
  | succ m ih =>
    intro vs H h
    match vs, h with
    | v :: vs, ⟨⟨x, fx, hx⟩, h2⟩ =>
      obtain ⟨xs, i1, i2, i3⟩ := ih h2
      refine ⟨x :: xs, by rw [List.length_cons, i1], fun u hu => ?_, hx, i3⟩
      rcases List.mem_cons.mp hu with e | hu
      · rw [e]; exact fx
      · exact i2 u hu
section
variable {P : Program} {w : World} {K : PySem.W.Frag} {mg : Str → Option Value} {base : Heap}
abbrev sRu : Stmt := top 63
abbrev nRu : List Str := ["_law_pen_here", "_law_most_kinds", "_law_most_pairs", "_law_words_here", "_law_k"]
theorem scRu : FnScope nRu ["_law_pen_here", "_law_most_kinds", "_law_most_pairs"] (defScope sRu) := ⟨rfl, rfl, rfl, by decide +kernel, rfl, by decide +kernel, by decide +kernel⟩
structure OkRu (r : List Str × List (DD × DD)) : Prop where
  l2 : 2 ≤ r.1.length
  l5 : r.1.length ≤ 5
  w : ∀ k ∈ r.1, Wd k
  n : r.2.length ≤ 6
  pr : ∀ q ∈ r.2, okPd r.1 q
abbrev Rul (r : List Str × List (DD × DD)) : VP := Tp [TL r.1, LPd r.2]
abbrev spRu : Sp := spG (α := Addr × Nat) (fun y => y.2 < 600000) (fun y => [Rf y.1, Vl (.int 5), Vl (.int 6)]) (fun y => [(y.1, CPen y.2)]) (fun _ => ExP OkRu Rul) (fun y => [(y.1, CPen (y.2 + 854))])
theorem c_Ru (D : Dfn K mg "_law_rules" sRu ["_law_pen_here", "_law_most_kinds", "_law_most_pairs"]) (T : Bt mg) (cDr : Cal P w K mg base 1 "_law_draw" ["_law_pen_here", "_law_many"] spDr) (cWo : Cal P w K mg base 3 "_law_words" ["_law_pen_here", "_law_many"] spWo) (cPa : Cal P w K mg base 4 "_law_pair" ["_law_pen_here", "_law_words_here"] spPa) : Cal P w K mg base 5 "_law_rules" ["_law_pen_here", "_law_most_kinds", "_law_most_pairs"] spRu := D.cal fun f fd F => by
  refine fn_ok F scRu (fun _ _ => rfl) ?_
  rintro ⟨q, n⟩ hn cdv A outer s H E B D hB hr hrt hnx
  have hn : n < 600000 := hn
  refine xs_asgX (js := [3]) (f := fun ws : List Str => (2 ≤ ws.length ∧ ws.length ≤ 5) ∧ ∀ k ∈ ws, Wd k) (Q := TL) (M1 := [(q, CPen (n + 13))]) (xcX (β := Nat) (Ps := [Rf q, ExP (fun d : Nat => d < 4) fun d => Vl (.int ((2 + d : Nat) : Int))]) (M1 := [(q, CPen (n + 1))]) [] cWo (hr.mono (by omega)) (fun d => d < 4) (fun d => (q, n + 1, 2 + d)) (xa_cons (v 0) (xa_cons (XE.w (xe_op op_add (rv_exr (f := fun d : Nat => d < 4) (Q := fun d => Vl (.int (d : Int))) (R := fun d => Vl (.int (2 + (d : Int)))) fun d hd => rv_i0) xe_int (xcq [] cDr (hr.mono (by omega)) (q, n, 4) (xa_cons (v 0) (xa_cons (XE.w (xe_op op_sub (rv_i0 (i := 5) (j := 1)) (v 1) xe_int) fun _ _ p => p) xa_nil)) ⟨by show n < 1000000; omega, (by decide : 0 < 4), (by decide : 4 < 1000000)⟩ rfl rfl fun _ _ p => p)) fun v H ⟨d, hd, p⟩ => ⟨d, hd, ?_⟩) xa_nil))
    (fun vs H h => ?_) (fun d hd => ⟨by show n + 1 < 700000; omega, by show 2 + d ≤ 6; omega⟩) (fun _ _ => rfl) (fun _ _ => rfl) (fun d hd v H ⟨ws, hws, p⟩ => ⟨ws, ⟨?_, hws.2⟩, p⟩)) ?_
  · have p : v = .int (2 + (d : Int)) := p
    rw [p]
    show V.int _ = V.int _
    rw [Int.natCast_add]
    rfl
  · match vs, h with
    | [a, b], ⟨h1, ⟨d, hd, h2⟩, _⟩ => exact ⟨d, hd, h1, h2, trivial⟩
  · have := hws.1
    have this : ws.length = 2 + d := this
    omega
  rintro ws ⟨⟨hl2, hl5⟩, hw⟩
  refine ⟨_, xg_name (i := 3) scRu.nd rfl (.inr rfl), ?_⟩
  refine xs_done (M1 := [(q, CPen (n + 13 + 1 + 120 * 7))]) hrt (xe_tup (xa_cons (v 3) (xa_cons (XEm.lsX (XLc.xem (xlcD (n := n + 13) (q := q) (own := [("_law_k", 4)]) (R' := ExP (okPd ws) Pd) 120 7 [4] (fun k => [some (Rf q), some (Vl (.int 5)), some (Vl (.int 6)), some (TL ws), some (Vl (.int (k : Int)))]) rfl scRu.nd (by rfl) T.range
    (xcq [] cDr (hr.mono (by omega)) (q, n + 13, 7) (xa_cons (v 0) (xa_cons (XE.w (xe_op op_add (rv_i0 (i := 6) (j := 1)) (v 2) xe_int) fun _ _ p => p) xa_nil)) ⟨by show n + 13 < 1000000; omega, (by decide : 0 < 7), (by decide : 7 < 1000000)⟩ rfl rfl fun _ _ p => p) (by decide) (blkOk_by (N := nRu) (sc := defScope sRu) (by decide +kernel)) (by decide) (fun k s H C cl fp => xg_name (i := 4) scRu.nd rfl (.inl rfl)) (fun i hi s H C cl fp => ?_)))) xa_nil)) sl2) (fun v H p => ?_) (mo_w (pen_w (by omega)))
  · refine XE.pen (n := n + 13 + 1 + 120 * i + 120) (xcq [] cPa hr (q, n + 13 + 1 + 120 * i, ws) (xa_cons (v 0) (xa_cons (v 3) xa_nil)) ⟨by show n + 13 + 1 + 120 * i < 700000; omega, hl2, by show ws.length ≤ 6; omega⟩ rfl rfl fun _ _ p => p) (by omega)
  · obtain ⟨a, vs, e, ha, hv⟩ := p
    match vs, hv with
    | [x, y], ⟨h1, ⟨m, hm, b, us, e2, hb, h2⟩, _⟩ =>
      obtain ⟨ps, z1, z2, z3⟩ := ls_pick h2
      exact ⟨(ws, ps), ⟨hl2, hl5, hw, by show ps.length ≤ 6; have hm : m < 7 := hm; omega, z2⟩, a, [x, y], e, ha, h1, ⟨b, us, e2, hb, z3⟩, trivial⟩
end
end Y
/-! text ZK -/
set_option Elab.async false
set_option linter.all false
set_option maxRecDepth 100000
namespace Y
open PySem PySem.Spec PyProof.Rows L2 Mt
section
variable {X : Cx} {L : List Addr} {e o i a b tg : Expr} {G G1 : Gam} {M M' M1 M2 Ma Mb : Ml} {P P1 : VP} {pos pos' p2 : Pos} {q : Addr} {Ps : List VP} {n : Nat} {B : Bs} {D : Ends} {rest sts : List Stmt} {C C1 C2 : CP}
/-- a cell's list lent as a pure one: the value does not lean on the heap -/
theorem xe_lendP {P : VP} {G' : Gam} (hP : ∀ v H H', P.p v H → P.p v H') (hq : (q, CLs Ps) ∈ M) (hG : ∀ (σ : St) H0 vs, SL G σ H0 → H0 q = none → AllP H0 vs Ps → SL G' σ (upd H0 q (.lst vs))) (h : XE X [] e G' [] P []) : XE X [] e G M P M := ⟨rfl, fun σ H H0 s l m Q k => by
  obtain ⟨h1, o, h2, vs, h3, h4⟩ := m.2 _ hq
  have h2 : H q = some o := h2
  have h1 : H0 q = none := h1
  rw [h3] at h2
  have sa : Sub [] (upd H0 q (.lst vs)) H := ⟨fun a u e => by
    by_cases z : a = q
    · subst z
      rw [upd_same] at e
      cases e
      exact .inl ⟨List.not_mem_nil, h2⟩
    · rw [upd_ne z] at e
      exact s.at_ a u e, fun a ha => absurd ha List.not_mem_nil⟩
  refine h.run σ H _ sa (hG σ H0 vs l h1 h4) MO.nil Q fun v H' H0' g _ p => ?_
  have gr : Grow [] [] H0 H H0 H' := ⟨Same.refl _, ⟨fun a u e => by
    rcases s.at_ a u e with ⟨x, y⟩ | ⟨x, _⟩
    · exact .inl ⟨x, g.keep a _ y List.not_mem_nil⟩
    · exact absurd x List.not_mem_nil, fun a ha => absurd ha List.not_mem_nil⟩, g.keep, fun b hb => .inl hb, g.live⟩
  exact k v H' H0 gr.nil (m.grow0 gr) (hP v _ _ p)⟩
/-- the slot of a lent cell -/
theorem lend_at {Q : VP} (j : Nat) (hj : G[j]? = some (some (Rf q))) (hQ : ∀ H0 vs, H0 q = none → AllP (upd H0 q (.lst vs)) vs Ps → Q.p (.ref q) (upd H0 q (.lst vs))) : ∀ (σ : St) H0 vs, SL G σ H0 → H0 q = none → AllP H0 vs Ps → SL (G.set j (some Q)) σ (upd H0 q (.lst vs)) := fun σ H0 vs l h1 h2 => by
  have sm : Same H0 (upd H0 q (.lst vs)) := fun b u e => by
    rw [upd_ne (ne_of_none e h1)]
    exact e
  exact sl_shut l h1 j hj (hQ H0 vs h1 (h2.mono sm))
theorem lend_ls (j : Nat) (hj : G[j]? = some (some (Rf q))) : ∀ (σ : St) H0 vs, SL G σ H0 → H0 q = none → AllP H0 vs Ps → SL (G.set j (some (Ls Ps))) σ (upd H0 q (.lst vs)) := lend_at j hj fun H0 vs h1 h2 => ⟨q, vs, rfl, upd_same, h2⟩
/-- o[i] of a cell -/
theorem xe_cix (ho : XE X L o G M (Rf q) M1) (hi : XE X L i G M1 (Vl (.int (n : Int))) M2) (hq : (q, CLs Ps) ∈ M2) (hs : PlainIx i) (hn : Ps[n]? = some P) : XE X L (.Subscript o i pos) G M P M2 :=
  .of (pe_ix ix_list pW pW hs) (hi.ad.trans ho.ad) fun σ H H0 s l m Q k => ho.then2 hi s l m fun x y H2 H02 g2 s2 l2 m2 ex ey => by
    obtain ⟨h1, ob, h2, vs, h3, h4⟩ := m2.2 _ hq
    subst h3
    obtain ⟨v, e1, e2⟩ := h4.get hn
    exact ⟨q, vs, n, v, ex, ey, SqL.of h2, atI_nat e1, k v H2 H02 g2 m2 e2⟩
/-- o[i:] of a cell -/
theorem xe_cfrom (ho : XE X L o G M (Rf q) M1) (hi : XE X L i G M1 (Vl (.int (n : Int))) M2) (hq : (q, CLs Ps) ∈ M2) : XE X L (.Subscript o (.Slice (some i) none none p2) pos) G M (Ls (Ps.drop n)) M2 :=
  .of (pe_slice sl_list pW (po_some pW) po_none) (hi.ad.trans ho.ad) fun σ H H0 s l m Q k => ho.then_ s l m fun x H1 H01 g1 s1 l1 m1 ex => hi.then_ s1 l1 m1 fun y H2 H02 g2 s2 l2 m2 ey => by
    obtain ⟨h1, ob, h2, vs, h3, hv⟩ := m2.2 _ hq
    subst h3
    refine ⟨n, ey, q, vs, ex, SqL.of h2, fun p hp => ?_⟩
    rw [cut_drop]
    have g : Grow L [] H02 H2 (upd H02 p (.lst (vs.drop n))) (upd H2 p (.lst (vs.drop n))) := .alloc s2 hp
    exact k _ _ _ ((g1.tr (by rw [← ho.ad]; exact g2)).tr g.nil) (m2.grow0 g) ⟨p, _, rfl, upd_same, (hv.mono g.pure).drop n⟩
/-- o[i] = e, o a cell -/
theorem xs_lset (he : XE X L e G M P M1) (ho : XE X L o G M1 (Rf q) M2) (hi : XE X L i G M2 (Vl (.int (n : Int))) (Ma ++ (q, CLs Ps) :: Mb)) (hn : n < Ps.length) (hr : XS X L rest B G (Ma ++ (q, CLs (Ps.set n P)) :: Mb) D)
    (ha : ∀ v, assign (.Subscript o i pos') X.env v = (do
      let ov ← holding [v] (eval o X.env)
      let iv ← holding [v, ov] (eval i X.env)
      standAt pos'
      holding [v, ov, iv] (setItem ov iv v)
      release [v, ov, iv] []) := by intro _; rfl) (hs : swapsWithSole [.Subscript o i pos'] e pos.line X.env = pure false := by rfl) (hw : swappedStores [.Subscript o i pos'] e X.env = pure none := by rfl)
    (h1 : (assignEach [.Subscript o i pos'] X.env).map (·.2) = [assign (.Subscript o i pos') X.env] := by rfl) : XS X L (.Assign [.Subscript o i pos'] e pos :: rest) B G M D :=
  xs_of (ps_asg pW (pg_sub pW pW set_list ha) hs hw h1) fun σ H ⟨H0, g, l, m, fr⟩ => he.then_ g.sub l m fun v H1 H01 g1 s1 l1 m1 p1 => ho.then2 hi s1 l1 m1 fun x y H2 H02 g2 s2 l2 m2 ex ey => by
    obtain ⟨h1, ob, h2, vs, h3, h4⟩ := m2.at2
    subst h3
    have ead : ads (Ma ++ (q, CLs Ps) :: Mb) = ads M := hi.ad.trans (ho.ad.trans he.ad)
    have gB : Grow L B.A B.h0 B.h H02 H2 := (g.trans g1 fr).trans g2 fun b hb => fr b (by rw [← he.ad]; exact hb)
    have hq : q ∈ B.A ∨ B.h q = none := fr q (by rw [← ead]; simp [ads])
    have hl := h4.len
    refine ⟨q, vs, n, n, ex, ey, h2, ?_, hr.run σ _ ⟨H02, gB.write h1 hq, l2, m2.writeAt ⟨_, rfl, h4.set (P.mono _ _ _ g2.pure p1) n⟩, fun b hb => fr b ?_⟩⟩
    · unfold ixN
      rw [if_pos (by omega), if_pos (by omega), Int.toNat_natCast]
    · have e3 : ads (Ma ++ (q, CLs (Ps.set n P)) :: Mb) = ads (Ma ++ (q, CLs Ps) :: Mb) := by simp [ads]
      rw [← ead, ← e3]
      exact hb
/-- cells dropped -/
theorem XS.sub (hs : M'.Sublist M) (h : XS X L sts B G M' D) : XS X L sts B G M D := ⟨fun σ H ⟨H0, g, l, m, f⟩ => h.run σ H ⟨H0, g, l, ⟨m.1.sublist (hs.map _), fun c hc => m.2 c (hs.subset hc)⟩, fun b hb => f b ((hs.map (·.1)).subset hb)⟩⟩
/-- tg = (a, b), both new cells -/
theorem xs_two {kk : Nat} {tp : Pos} {js : List Nat} {G2 : Addr → Addr → Gam} (ha : XEm X L a G M C1 M1) (hb : ∀ q1, XEm X L b G (M1 ++ [(q1, C1)]) C2 (M1 ++ [(q1, C1)])) (hg : ∀ q1 q2, XG1 X L tg js (Tp [Rf q1, Rf q2]) G (G2 q1 q2)) (hr : ∀ q1 q2, XS X L rest B (G2 q1 q2) (M1 ++ [(q1, C1), (q2, C2)]) D)
    (hs : swapsWithSole [tg] (.Tuple [a, b] kk tp) pos.line X.env = pure false := by rfl) (hw : swappedStores [tg] (.Tuple [a, b] kk tp) X.env = pure none := by rfl) (h1 : (assignEach [tg] X.env).map (·.2) = [assign tg X.env] := by rfl)
    (h2 : starEach [a, b] X.env = (false, eval a X.env) :: starEach [b] X.env := by rfl) (h3 : starEach [b] X.env = (false, eval b X.env) :: starEach [] X.env := by rfl) : XS X L (.Assign [tg] (.Tuple [a, b] kk tp) pos :: rest) B G M D :=
  xs_of (ps_asg (pe_tup (pa_cons pW (pa_cons pW pa_nil h3) h2)) pWg hs hw h1) fun σ H ⟨H0, g, l, m, fr⟩ => ha.run σ H H0 g.sub l m _ fun q1 H1 H01 g1 m1 hq1 => (hb q1).run σ H1 H01 g1.sub (l.mono g1.pure) m1 _ fun q2 H2 H02 g2 m2 hq2 => ⟨by rw [sizeLine_eq]; exact (by decide : 2 ≤ 16777216), fun p hp => by
    have fr1 : ∀ b ∈ ads (M1 ++ [(q1, C1)]), b ∈ B.A ∨ B.h b = none := fun b hb' => by
      rw [ads_app, ha.ad] at hb'
      rcases List.mem_append.mp hb' with z | z
      · exact fr b z
      · have z : b = q1 := by simpa [ads] using z
        subst z
        cases e : B.h b with
        | none => exact .inr rfl
        | some o => exact absurd hq1 (g.live b (by rw [e]; simp))
    have gA := g.trans g1 fr
    have gB := gA.trans g2 fr1
    have fr2 : ∀ b ∈ ads (M1 ++ [(q1, C1)] ++ [(q2, C2)]), b ∈ B.A ∨ B.h b = none := fun b hb' => by
      rw [ads_app] at hb'
      rcases List.mem_append.mp hb' with z | z
      · exact fr1 b z
      · have z : b = q2 := by simpa [ads] using z
        subst z
        cases e : B.h b with
        | none => exact .inr rfl
        | some o => exact absurd hq2 (gA.live b (by rw [e]; simp))
    have g3 : Grow L [] H02 H2 (upd H02 p (.tup [.ref q1, .ref q2])) (upd H2 p (.tup [.ref q1, .ref q2])) := .alloc gB.sub hp
    have m3 := m2.grow0 g3
    have eM : M1 ++ [(q1, C1)] ++ [(q2, C2)] = M1 ++ [(q1, C1), (q2, C2)] := by rw [List.append_assoc]; rfl
    refine (hg q1 q2).run _ σ _ _ g3.sub (((l.mono g1.pure).mono g2.pure).mono g3.pure) ⟨p, _, rfl, upd_same, rfl, rfl, trivial⟩ _ fun σ' l' _ _ => (hr q1 q2).run σ' _ ⟨_, gB.trans g3 (fun _ h => by cases h), l', by rw [← eM]; exact m3, by rw [← eM]; exact fr2⟩⟩
/-- n - 1, .., 0 -/
def revP (n : Nat) : List VP := (List.range n).map fun i => Vl (.int ((n - 1 - i : Nat) : Int))
theorem revP_len (n : Nat) : (revP n).length = n := by simp [revP]
theorem revP_at {n i : Nat} (h : i < n) : (revP n)[i]? = some (Vl (.int ((n - 1 - i : Nat) : Int))) := by simp [revP, h]
theorem xi_rev {n : Nat} {p1 p2 p3 p4 : Pos} (hg : Gl X "reversed") (hm : X.mg "reversed" = none) (hgr : Gl X "range") (hmr : X.mg "range" = none) (he : XE X L e G M (Vl (.int (n : Int))) M1) (hn : n < 2 ^ 62) (hs : starEach [.Call (.Name "range" p1) [e] [] p2] X.env = (false, eval (.Call (.Name "range" p1) [e] [] p2) X.env) :: starEach [] X.env := by rfl) (hs2 : starEach [e] X.env = (false, eval e X.env) :: starEach [] X.env := by rfl) :
    XI X L tg (.Call (.Name "reversed" p3) [.Call (.Name "range" p1) [e] [] p2] [] p4) G M (revP n) M1 [] :=
  ⟨he.ad, _, pi_revR hg hm (prg_1 hgr hmr pW hs2) hs, fun σ H H0 s l m R k => he.then_ s l m fun v H1 H01 g1 s1 l1 m1 ev => by
    refine ⟨(n : Int), ev, by omega, by omega, by omega, by omega, ?_⟩
    have e1 : ((n : Int) - 0).toNat = n := by omega
    rw [e1]
    have w : Walk (Itc (0 + (n : Int) - 1) (-1) n) (revP n).length (fun _ => True) (YFn fun i => .int (0 + (n : Int) - 1 + (i : Nat) * -1)) := by
      rw [revP_len]
      exact walk_rangeC
    refine k _ H1 H01 _ _ g1 m1 w (fun _ _ _ _ => trivial) fun i Hx z Hy H0x hi gx hy => ?_
    obtain ⟨rfl, hz⟩ := hy
    rw [revP_len] at hi
    refine ⟨H0x, _, .refl gx.sub, revP_at hi, ?_⟩
    rw [hz]
    show V.int _ = V.int _
    congr 1
    omega⟩
end
end Y
/-! text Me -/
set_option Elab.async false
set_option linter.all false
set_option maxRecDepth 100000
namespace Mt
/-- the state of the law's own clearing of a column -/
structure JI (W k C D : Nat) (R0 S : List Row) : Prop where
  len : ∀ r ∈ S, r.length = W
  siz : Siz k C S
  top : ∀ r ∈ S, (at_ r k).natAbs ≤ D
  eqv : Eqv S R0
  num : S.length = R0.length
theorem JI.init {W k N : Nat} {R0 : List Row} (hl : ∀ r ∈ R0, r.length = W) (hb : ∀ r ∈ R0, Bd (2 ^ N) r) (hm : R0.length ≤ 6) : JI W k (2 ^ (3 * N + 8)) (2 ^ N) R0 R0 := by
  have h := CI.init (k := k) hl hb hm
  have hp : (R0.filter (fun r => at_ r k != 0) ++ R0.filter fun r => at_ r k == 0).Perm R0 := by
    have := filter_split (fun r => at_ r k != 0) R0
    have e : (fun r : Row => !(at_ r k != 0)) = fun r => at_ r k == 0 := by
      funext r
      simp [bne]
    rw [e] at this
    exact this
  exact ⟨hl, h.siz.perm hp, fun r hr => hb r hr k, Eqv.rfl', rfl⟩
theorem two_of {α : Type} {p : α → Bool} {A B : List α} {s : α} (hs : p s = true) (h : 1 < ((A ++ s :: B).filter p).length) : ∃ r ∈ A ++ B, p r = true := by
  rw [List.filter_append, List.filter_cons, if_pos hs, List.length_append, List.length_cons] at h
  have : 0 < ((A ++ B).filter p).length := by
    rw [List.filter_append, List.length_append]
    omega
  obtain ⟨r, hr⟩ := List.exists_mem_of_length_pos this
  exact ⟨r, (List.mem_filter.mp hr).1, (List.mem_filter.mp hr).2⟩
theorem JI.step {W k C D : Nat} {R0 A B : List Row} {s : Row} (h : JI W k C D R0 (A ++ s :: B)) (hs : at_ s k ≠ 0) (hm : ∀ r ∈ A ++ s :: B, at_ r k ≠ 0 → (at_ s k).natAbs ≤ (at_ r k).natAbs) (h1 : 1 < ((A ++ s :: B).filter fun r => at_ r k != 0).length) :
    JI W k C D R0 (A.map (red k s) ++ s :: B.map (red k s)) ∧ mes k (A.map (red k s) ++ s :: B.map (red k s)) < mes k (A ++ s :: B) := by
  have hp : (A ++ s :: B).Perm (s :: (A ++ B)) := List.perm_middle
  have hq : (A.map (red k s) ++ s :: B.map (red k s)).Perm (s :: (A ++ B).map (red k s)) := by
    rw [List.map_append]
    exact List.perm_middle
  have hsl : s.length = W := h.len s (by simp)
  have hlW : ∀ r ∈ A ++ B, r.length = W := fun r hr => h.len r (hp.mem_iff.mpr (.tail _ hr))
  have hl : ∀ r ∈ A ++ B, r.length = s.length := fun r hr => by rw [hsl]; exact hlW r hr
  have hm' : ∀ r ∈ A ++ B, at_ r k ≠ 0 → (at_ s k).natAbs ≤ (at_ r k).natAbs := fun r hr hz => hm r (hp.mem_iff.mpr (.tail _ hr)) hz
  have hc : ∃ r ∈ A ++ B, at_ r k ≠ 0 := by
    obtain ⟨r, hr, e⟩ := two_of (p := fun r => at_ r k != 0) (by simpa using hs) h1
    exact ⟨r, hr, by simpa using e⟩
  have hr := round h.siz hp hl hs hm' hc
  have hd := round_mes hp hl hs hm' hc
  refine ⟨⟨fun r hr' => ?_, hr.perm hq.symm, fun r hr' => ?_, (Eqv.perm hq).trans ((red_eqv hl).symm.trans ((Eqv.perm hp).symm.trans h.eqv)), ?_⟩, by rw [mes_perm hq]; exact hd⟩
  · rcases List.mem_cons.mp (hq.mem_iff.mp hr') with e | hr'
    · rw [e]; exact hsl
    · obtain ⟨t, ht, rfl⟩ := List.mem_map.mp hr'
      rw [len_red (hl t ht), hsl]
  · rcases List.mem_cons.mp (hq.mem_iff.mp hr') with e | hr'
    · rw [e]; exact h.top s (by simp)
    · obtain ⟨t, ht, rfl⟩ := List.mem_map.mp hr'
      rw [at_red_k (hl t ht)]
      exact Nat.le_trans (Nat.le_of_lt (fmod_lt hs).1) (h.top s (by simp))
  · rw [← h.num, List.length_append, List.length_append, List.length_cons, List.length_cons, List.length_map, List.length_map]
theorem JI.ci {W k C D : Nat} {R0 S : List Row} (h : JI W k C D R0 S) : CI W k C D R0 (S.filter fun r => at_ r k != 0) (S.filter fun r => at_ r k == 0) := by
  have hp : (S.filter (fun r => at_ r k != 0) ++ S.filter fun r => at_ r k == 0).Perm S := by
    have := filter_split (fun r => at_ r k != 0) S
    have e : (fun r : Row => !(at_ r k != 0)) = fun r => at_ r k == 0 := by
      funext r
      simp [bne]
    rw [e] at this
    exact this
  exact ⟨fun r hr => h.len r (hp.mem_iff.mp hr), fun r hr => by simpa using (List.mem_filter.mp hr).2, fun r hr => by simpa using (List.mem_filter.mp hr).2, h.siz.perm hp.symm, fun r hr => h.top r (hp.mem_iff.mp hr), (Eqv.perm hp).trans h.eqv, hp.length_eq.trans h.num⟩
/-- behind i of the places, p the least's -/
def stp (k : Nat) (s : Row) (p i : Nat) (R : List Row) : List Row := R.mapIdx fun j r => if j < i ∧ j ≠ p then red k s r else r
theorem stp_len {k p i : Nat} {s : Row} {R : List Row} : (stp k s p i R).length = R.length := List.length_mapIdx
theorem stp_get {k p i : Nat} {s : Row} {R : List Row} (j : Nat) : (stp k s p i R)[j]? = (R[j]?).map fun r => if j < i ∧ j ≠ p then red k s r else r := List.getElem?_mapIdx
theorem stp_zero {k p : Nat} {s : Row} {R : List Row} : stp k s p 0 R = R := by
  apply List.ext_getElem?
  intro j
  rw [stp_get]
  cases R[j]? with
  | none => rfl
  | some r => simp
theorem stp_skip {k p : Nat} {s : Row} {R : List Row} : stp k s p (p + 1) R = stp k s p p R := by
  apply List.ext_getElem?
  intro j
  rw [stp_get, stp_get]
  congr 1
  funext r
  by_cases h : j = p
  · simp [h]
  · have : (j < p + 1 ∧ j ≠ p) ↔ (j < p ∧ j ≠ p) := by omega
    simp only [this]
theorem stp_step {k p i : Nat} {s r : Row} {R : List Row} (h : R[i]? = some r) (hp : i ≠ p) : stp k s p (i + 1) R = (stp k s p i R).set i (red k s r) := by
  apply List.ext_getElem?
  intro j
  rw [List.getElem?_set, stp_get, stp_get, stp_len]
  have hi := (List.getElem?_eq_some_iff.mp h).1
  by_cases e : i = j
  · subst e
    rw [if_pos rfl, if_pos hi, h]
    simp [hp]
  · rw [if_neg e]
    congr 1
    funext r
    have : (j < i + 1 ∧ j ≠ p) ↔ (j < i ∧ j ≠ p) := by omega
    simp only [this]
theorem stp_end {k : Nat} {s : Row} {A B : List Row} : stp k s A.length (A ++ s :: B).length (A ++ s :: B) = A.map (red k s) ++ s :: B.map (red k s) := by
  apply List.ext_getElem?
  intro j
  rw [stp_get]
  rcases Nat.lt_trichotomy j A.length with h | h | h
  · rw [List.getElem?_append_left h, List.getElem?_append_left (by rw [List.length_map]; exact h), List.getElem?_map]
    congr 1
    funext r
    rw [if_pos ⟨by rw [List.length_append]; omega, by omega⟩]
  · subst h
    rw [List.getElem?_append_right (Nat.le_refl _), List.getElem?_append_right (by rw [List.length_map]; omega), List.length_map, Nat.sub_self]
    simp
  · obtain ⟨m, rfl⟩ : ∃ m, j = A.length + 1 + m := ⟨j - (A.length + 1), by omega⟩
    have e1 : A.length + 1 + m - A.length = m + 1 := by omega
    rw [List.getElem?_append_right (by omega), List.getElem?_append_right (by rw [List.length_map]; omega), List.length_map, e1, List.getElem?_cons_succ, List.getElem?_cons_succ, List.getElem?_map]
    cases e : B[m]? with
    | none => rfl
    | some r =>
      have := (List.getElem?_eq_some_iff.mp e).1
      rw [Option.map_some, Option.map_some, if_pos ⟨by rw [List.length_append, List.length_cons]; omega, by omega⟩]
theorem stp_at {k p i : Nat} {s : Row} {R : List Row} (h : R[p]? = some s) : (stp k s p i R)[p]? = some s := by
  rw [stp_get, h]
  simp
/-- a row with a place -/
theorem split_at {R : List Row} {p : Nat} {s : Row} (h : R[p]? = some s) : ∃ A B, R = A ++ s :: B ∧ A.length = p := by
  obtain ⟨hp, e⟩ := List.getElem?_eq_some_iff.mp h
  refine ⟨R.take p, R.drop (p + 1), ?_, by rw [List.length_take]; omega⟩
  rw [← e, ← List.drop_eq_getElem_cons hp, List.take_append_drop]
end Mt
/-! text ZL -/
set_option Elab.async false
set_option linter.all false
set_option maxRecDepth 100000
namespace Y
open PySem PySem.Spec PyProof.Rows L2 Mt
theorem gd_at {S : List Row} {j : Nat} (h : j < S.length) : (S.map IL)[j]? = some (IL (S.getD j [])) := by
  rw [List.getElem?_map, List.getD_eq_getElem?_getD, List.getElem?_eq_getElem h]
  rfl
/-- of one sign -/
def sgn (k : Nat) (r : Row) : Row := if 0 < at_ r k then r else negR r
theorem sgn_map (k : Nat) (r : Row) : sgn k r = r.map fun x => if 0 < at_ r k then x else -x := by
  unfold sgn
  split
  · exact (List.map_id' r).symm
  · rfl
/-- what the law's triangle is -/
abbrev spTl : Sp := spP (α := List Row × Nat) (fun q => PreTR q.2 q.2 q.1) (fun q => [ILL q.1, Vl (.int (q.2 : Int))]) (fun q => ExP (fun T => ∃ S, Tria q.2 q.2 q.1 T S) ILL)
theorem ti_next {W k : Nat} {R0 F S S' : List Row} (hT : TI W W k R0 F.reverse S) (hJ : JI W k (2 ^ beta (k + 1)) (2 ^ beta k) S S') (h1 : (S'.filter fun r => at_ r k != 0).length ≤ 1) :
    TI W W (k + 1) R0 (F ++ (S'.filter fun r => at_ r k != 0).map (sgn k)).reverse (S'.filter fun r => at_ r k == 0) := by
  have hc := hJ.ci
  match e : S'.filter (fun r => at_ r k != 0), h1 with
  | [], _ =>
    rw [e] at hc
    have := hT.step hc.none
    simpa using this
  | [p], _ =>
    rw [e] at hc
    have := hT.step hc.some
    rw [List.map_cons, List.map_nil, List.reverse_append]
    exact this
  | _ :: _ :: _, h => simp at h
section
variable {P : Program} {w : World} {K : PySem.W.Frag} {mg : Str → Option Value} {base : Heap}
abbrev sTl : Stmt := top 69
abbrev nTl : List Str := ["_law_rows_here", "_law_width", "_law_row_here", "_law_found", "_law_rest", "_law_k", "_law_least", "_law_j", "_law_at", "_law_n", "_law_i"]
theorem scTl : FnScope nTl ["_law_rows_here", "_law_width"] (defScope sTl) := ⟨rfl, rfl, rfl, by decide +kernel, rfl, by decide +kernel, by decide +kernel⟩
abbrev GT (R0 : List Row) (W : Nat) (a2 a3 a4 a5 a6 a7 a8 a9 a10 : Option VP) : Gam := [some (ILL R0), some (Vl (.int (W : Int))), a2, a3, a4, a5, a6, a7, a8, a9, a10]
theorem c_Tl (D : Dfn K mg "_law_triangle" sTl ["_law_rows_here", "_law_width"]) (T' : Bt mg) (cLs : Cal P w K mg base 2 "_law_lessened" ["_law_triangle_here", "_law_row_here"] spLs) : Cal P w K mg base 3 "_law_triangle" ["_law_rows_here", "_law_width"] spTl := D.cal fun f fd F => by
  refine fn_ok F scTl (fun _ _ => rfl) ?_
  rintro ⟨R0, W⟩ h cdv A outer s H E B D hB hr hrt hnx
  have h : PreTR W W R0 := h
  have hW := h.w6
  have hR6 := h.num
  have hW64 : W < 64 := by omega
  refine xs_two (js := [3, 4]) (C1 := CLs []) (C2 := CLs (R0.map IL)) (M1 := []) (xem_lst xa_nil (Nat.zero_le _)) (fun q1 => XLc.xem (xlcM (own := [("_law_row_here", 2)]) [2] (fun r => GT R0 W (some (IL r)) none none none none none none none none) R0 IL IL rfl scTl.nd (xi_list (v 0)) (blkOk_by (N := nTl) (sc := defScope sTl) (by decide +kernel)) (fun _ _ _ => MO.nil) (len64 (by omega)) (by decide)
    (fun r hr s H C cl fp => xg_name (i := 2) scTl.nd rfl (.inl rfl)) (fun r hr s H C cl fp => xe_callTy call_list_of rc_listL (by rfl) T'.list PyProof.Rows.boot_list (xa_cons (v 2) xa_nil)))) (fun q1 q2 => xg_tup rfl (xgs_cons (xg_name (i := 3) scTl.nd rfl (.inl rfl)) (xgs_cons (xg_name (i := 4) scTl.nd rfl (.inr rfl)) xgs_nil))) fun qf qr => ?_
  refine xs_for (ι := List Row × List Row × Addr) PassesOwn.never rfl (xi_range (n := W) (by rfl) T'.range (v 1) (by omega)) (fun k a => TI W W k R0 a.1.reverse a.2.1) (fun k a => GT R0 W none (some (Rf qf)) (some (Rf a.2.2)) none none none none none none) (fun k a => [(qf, CLs (a.1.map IL)), (a.2.2, CLs (a.2.1.map IL))]) ⟨([], R0, qr), TI.init h.len h.bd, (fun _ _ h => h), rfl, fun _ _ h => h⟩ (fun _ _ _ _ _ _ => MO.nil) ?_ ?_
  · rintro k ⟨F, S, q1⟩ Q B' bl hQ hT
    have hk : k < W := by
      have := (List.getElem?_eq_some_iff.mp hQ).1
      rw [rngP_len] at this
      exact this
    rw [rngP_at hk] at hQ
    cases hQ
    have hT : TI W W k R0 F.reverse S := hT
    have hSl : ∀ r ∈ S, r.length = W := fun r hr => hT.len r (List.mem_append_right _ hr)
    have hFS : F.length + S.length ≤ 6 := by
      have := hT.num
      rw [List.length_append, List.length_reverse] at this
      omega
    have hb5 : beta k ≤ 5828 := beta5 ▸ beta_mono (show k ≤ 5 by omega)
    have hb6 : beta (k + 1) ≤ 17492 := beta6 ▸ beta_mono (show k + 1 ≤ 6 by omega)
    refine ⟨[5], _, xg_name (i := 5) scTl.nd rfl (.inr rfl), ?_⟩
    show XS _ _ _ _ (GT R0 W none (some (Rf qf)) (some (Rf q1)) (some (Vl (.int (k : Int)))) none none none none none) _ _
    refine xs_while (ι := List Row) PassesOwn.never (fun S' => JI W k (2 ^ beta (k + 1)) (2 ^ beta k) S S') (fun S' => mes k S') (fun _ => GT R0 W none (some (Rf qf)) (some (Rf q1)) (some (Vl (.int (k : Int)))) none none none none none) (fun S' => [(qf, CLs (F.map IL)), (q1, CLs (S'.map IL))]) ⟨S, JI.init hSl hT.bd (by omega), (fun _ _ h => h), rfl, fun _ _ h => h⟩ ?_
    rintro S' hJ
    have hJ : JI W k (2 ^ beta (k + 1)) (2 ^ beta k) S S' := hJ
    have hl' := hJ.len
    have h6' : S'.length ≤ 6 := by have := hJ.num; omega
    refine ⟨_, _, xt_cmp op_gt (rv_i0 (i := (((S'.filter fun r => at_ r k != 0).map IL).length : Int)) (j := 1)) (xe_lend (Ps := S'.map IL) (.tail _ (.head _)) (lend_ls 4 rfl) (xe_callB call_len_seq rc_lenL (by rfl) T'.len bt_len (xa_cons (XLc.ls (xlcF (own := [("_law_row_here", 2)]) [2] (fun r => GT R0 W (some (IL r)) (some (Rf qf)) (some (Ls (S'.map IL))) (some (Vl (.int (k : Int)))) none none none none none) S' IL IL (fun r => at_ r k != 0) rfl scTl.nd (xi_list (v 4)) (blkOk_by (N := nTl) (sc := defScope sTl) (by decide +kernel)) (fun _ _ h => h) (len64 (by omega)) (by decide)
      (fun r hr s H C cl fp => xg_name (i := 2) scTl.nd rfl (.inl rfl)) (fun r hr s H C cl fp => xts_one (xt_cmp op_ne rv_neI (xe_ix ix_list (fun _ _ => rfl) (rv_ixL (il_at (by rw [hl' r hr]; exact hk))) (v 2) (v 5)) xe_int (nomark _))) (fun r hr _ s H C cl fp => v 2))) xa_nil))) xe_int (nomark _), fun ht => ?_, fun ht => ?_⟩
    · have h1 : 1 < (S'.filter fun r => at_ r k != 0).length := by
        have := of_decide_eq_true ht.symm
        rw [List.length_map] at this
        omega
      refine xs_set (i := 6) (P := II fun m => m ∈ ((S'.filter fun r => at_ r k != 0).map fun r => ((at_ r k).natAbs : Int)) ∧ ∀ y ∈ ((S'.filter fun r => at_ r k != 0).map fun r => ((at_ r k).natAbs : Int)), m ≤ y) (M1 := [(qf, CLs (F.map IL)), (q1, CLs (S'.map IL))]) (xe_lendP (Ps := S'.map IL) (fun _ _ _ p => p) (.tail _ (.head _)) (lend_ls 4 rfl) (xe_callB (cr_min rfl) (rc_min (by rw [List.length_map]; omega)) (by rfl) T'.min bt_min (xa_cons (XE.w (XLc.ls (xlcF (own := [("_law_row_here", 2)]) [2] (fun r => GT R0 W (some (IL r)) (some (Rf qf)) (some (Ls (S'.map IL))) (some (Vl (.int (k : Int)))) none none none none none) S' IL (fun r => Vl (.int ((at_ r k).natAbs : Int))) (fun r => at_ r k != 0) rfl scTl.nd (xi_list (v 4)) (blkOk_by (N := nTl) (sc := defScope sTl) (by decide +kernel)) (fun _ _ h => h) (len64 (by omega)) (by decide)
        (fun r hr s H C cl fp => xg_name (i := 2) scTl.nd rfl (.inl rfl)) (fun r hr s H C cl fp => xts_one (xt_cmp op_ne rv_neI (xe_ix ix_list (fun _ _ => rfl) (rv_ixL (il_at (by rw [hl' r hr]; exact hk))) (v 2) (v 5)) xe_int (nomark _))) (fun r hr _ s H C cl fp => xe_callTy call_int1 rc_int (by rfl) T'.int PyProof.Rows.boot_int (xa_cons (xe_callB call_abs rc_abs (by rfl) T'.abs PyProof.Rows.boot_abs (xa_cons (xe_ix ix_list (fun _ _ => rfl) (rv_ixL (il_at (by rw [hl' r hr]; exact hk))) (v 2) (v 5)) xa_nil)) xa_nil)))) fun v H p => ?_) xa_nil))) scTl.nd rfl (.inr rfl) ?_
      · show (Ls ((List.map _ _).map _)).p v H
        rw [List.map_map]
        exact p
      refine xs_openI (i := 6) rfl fun m hm => ?_
      obtain ⟨hm1, hm2⟩ := hm
      obtain ⟨r0, hr0, em⟩ := List.mem_map.mp hm1
      obtain ⟨hr0S, hr00⟩ := List.mem_filter.mp hr0
      have hr00 : at_ r0 k ≠ 0 := by simpa using hr00
      obtain ⟨j0, hj0⟩ := List.getElem?_of_mem hr0S
      have hj0l := (List.getElem?_eq_some_iff.mp hj0).1
      obtain ⟨p, t, hpt⟩ : ∃ p t, (List.range S'.length).filter (fun j => ((at_ (S'.getD j []) k).natAbs : Int) == m) = p :: t := by
        have hmem : j0 ∈ (List.range S'.length).filter (fun j => ((at_ (S'.getD j []) k).natAbs : Int) == m) := by
          refine List.mem_filter.mpr ⟨List.mem_range.mpr hj0l, ?_⟩
          rw [List.getD_eq_getElem?_getD, hj0]
          simpa using em
        cases e : (List.range S'.length).filter (fun j => ((at_ (S'.getD j []) k).natAbs : Int) == m) with
        | nil =>
          rw [e] at hmem
          cases hmem
        | cons p t => exact ⟨p, t, rfl⟩
      have hpm : p ∈ (List.range S'.length).filter (fun j => ((at_ (S'.getD j []) k).natAbs : Int) == m) := by
        rw [hpt]
        exact .head _
      obtain ⟨hpr, hpe⟩ := List.mem_filter.mp hpm
      have hpl := List.mem_range.mp hpr
      obtain ⟨s0, hs0⟩ : ∃ s0, S'[p]? = some s0 := ⟨_, List.getElem?_eq_getElem hpl⟩
      have hsm : ((at_ s0 k).natAbs : Int) = m := by
        rw [List.getD_eq_getElem?_getD, hs0] at hpe
        simpa using hpe
      have hsS : s0 ∈ S' := List.mem_of_getElem? hs0
      have hsk : at_ s0 k ≠ 0 := by omega
      have hsl : s0.length = W := hl' s0 hsS
      have hmin : ∀ r ∈ S', at_ r k ≠ 0 → (at_ s0 k).natAbs ≤ (at_ r k).natAbs := fun r hr hz => by
        have := hm2 _ (List.mem_map.mpr ⟨r, List.mem_filter.mpr ⟨hr, by simpa using hz⟩, rfl⟩)
        omega
      refine xs_set (i := 8) (P := Vl (.int (p : Int))) (M1 := [(qf, CLs (F.map IL)), (q1, CLs (S'.map IL))]) (xe_lend (Ps := S'.map IL) (.tail _ (.head _)) (lend_ls 4 rfl) (xe_ix ix_list (fun _ _ => rfl) (rv_ixL (n := 0) (Ps := ((List.range S'.length).filter fun j => ((at_ (S'.getD j []) k).natAbs : Int) == m).map fun j : Nat => Vl (.int (j : Int))) (P := Vl (.int (p : Int))) (by rw [hpt]; rfl)) (XLc.ls (xlcF (own := [("_law_j", 7)]) [7] (fun j : Nat => GT R0 W none (some (Rf qf)) (some (Ls (S'.map IL))) (some (Vl (.int (k : Int)))) (some (Vl (.int m))) (some (Vl (.int (j : Int)))) none none none) (List.range S'.length) (fun j : Nat => Vl (.int (j : Int))) (fun j : Nat => Vl (.int (j : Int))) (fun j => ((at_ (S'.getD j []) k).natAbs : Int) == m) rfl scTl.nd (xi_range (n := S'.length) (by rfl) T'.range (XE.w (xe_callB call_len_seq rc_lenL (by rfl) T'.len bt_len (xa_cons (v 4) xa_nil)) fun v H p => ?_) (by omega)) (blkOk_by (N := nTl) (sc := defScope sTl) (by decide +kernel)) (fun _ _ _ => MO.nil) (len64 (by rw [List.length_range]; omega)) (by decide)
        (fun r hr s H C cl fp => xg_name (i := 7) scTl.nd rfl (.inl rfl)) (fun j hj s H C cl fp => xts_one (xt_cmp op_eq rv_eqI (xe_callB call_abs rc_abs (by rfl) T'.abs PyProof.Rows.boot_abs (xa_cons (xe_ix ix_list (fun _ _ => rfl) (rv_ixL (il_at ?_)) (xe_ix ix_list (fun _ _ => rfl) (rv_ixL (gd_at (List.mem_range.mp hj))) (v 4) (v 7)) (v 5)) xa_nil)) (v 6) (nomark _))) (fun j hj _ s H C cl fp => v 7))) xe_int)) scTl.nd rfl (.inr rfl) ?_
      · rw [List.length_map] at p
        exact p
      · have hj := List.mem_range.mp hj
        rw [List.getD_eq_getElem?_getD, List.getElem?_eq_getElem hj]
        show k < (S'[j]).length
        rw [hl' _ (List.getElem_mem hj)]
        exact hk
      refine xs_for (ι := Unit) PassesOwn.never rfl (xi_range (n := S'.length) (by rfl) T'.range (XE.w (xe_lend (Ps := S'.map IL) (z := .int ((S'.map IL).length : Int)) (.tail _ (.head _)) (lend_ls 4 rfl) (xe_callB call_len_seq rc_lenL (by rfl) T'.len bt_len (xa_cons (v 4) xa_nil))) fun v H p => ?_) (by omega)) (fun _ _ => True) (fun i _ => GT R0 W none (some (Rf qf)) (some (Rf q1)) (some (Vl (.int (k : Int)))) (some (Vl (.int m))) none (some (Vl (.int (p : Int)))) none none) (fun i _ => [(qf, CLs (F.map IL)), (q1, CLs ((stp k s0 p i S').map IL))]) ⟨(), trivial, (fun _ _ h => h), rfl, fun _ _ h => by rw [stp_zero]; exact h⟩ (fun _ _ _ _ _ _ => MO.nil) ?_ ?_
      · rw [List.length_map] at p
        exact p
      · rintro i - Q B'' bl' hQ -
        have hi : i < S'.length := by
          have := (List.getElem?_eq_some_iff.mp hQ).1
          rw [rngP_len] at this
          exact this
        rw [rngP_at hi] at hQ
        cases hQ
        obtain ⟨r, hir⟩ : ∃ r, S'[i]? = some r := ⟨_, List.getElem?_eq_getElem hi⟩
        have hrS : r ∈ S' := List.mem_of_getElem? hir
        have hrl : r.length = W := hl' r hrS
        have hti : (stp k s0 p i S')[i]? = some r := by
          rw [stp_get, hir]
          simp
        have htp : (stp k s0 p i S')[p]? = some s0 := stp_at hs0
        refine ⟨[7], _, xg_name (i := 7) scTl.nd rfl (.inr rfl), ?_⟩
        show XS _ _ _ _ (GT R0 W none (some (Rf qf)) (some (Rf q1)) (some (Vl (.int (k : Int)))) (some (Vl (.int m))) (some (Vl (.int (i : Int)))) (some (Vl (.int (p : Int)))) none none) _ _
        refine xs_when (M1 := [(qf, CLs (F.map IL)), (q1, CLs ((stp k s0 p i S').map IL))]) (p := (· = ((i : Int) != (p : Int)))) (xt_cmp op_ne rv_neI (v 7) (v 8) (nomark _)) (fun ht => ?_) (fun ht => ?_)
        · have hip : i ≠ p := fun e => by
            subst e
            simp at ht
          have b1 : (at_ r k).natAbs ≤ 2 ^ beta k := hJ.top r hrS
          have b2 : Bd (2 ^ beta (k + 1)) s0 := hJ.siz.bd s0 hsS
          have b3 : (at_ s0 k).natAbs ≤ 2 ^ beta k := hJ.top s0 hsS
          have q0 : (at_ r k).natAbs + 1 ≤ 2 ^ (beta k + 1) := by
            have : 1 ≤ 2 ^ beta k := Nat.one_le_two_pow
            rw [Nat.pow_succ]
            omega
          refine xs_set (i := 9) (P := Vl (.int ((at_ r k).fdiv (at_ s0 k)))) (M1 := [(qf, CLs (F.map IL)), (q1, CLs ((stp k s0 p i S').map IL))]) (xe_lend (Ps := (stp k s0 p i S').map IL) (.tail _ (.head _)) (lend_ls 4 rfl) (xe_op op_fdivNW (rv_i (i := at_ r k) (j := at_ s0 k) ⟨hsk, Nat.lt_of_le_of_lt (log2_le_of b3) (by omega)⟩) (xe_ix ix_list (fun _ _ => rfl) (rv_ixL (il_at (by rw [hrl]; exact hk))) (xe_ix ix_list (fun _ _ => rfl) (rv_ixL (ill_at hti)) (v 4) (v 7)) (v 5)) (xe_ix ix_list (fun _ _ => rfl) (rv_ixL (il_at (by rw [hsl]; exact hk))) (xe_ix ix_list (fun _ _ => rfl) (rv_ixL (ill_at htp)) (v 4) (v 8)) (v 5)))) scTl.nd rfl (.inr rfl) ?_
          refine xs_lset (n := i) (Ps := (stp k s0 p i S').map IL) (P := IL (red k s0 r)) (Ma := [(qf, CLs (F.map IL))]) (Mb := []) (M1 := [(qf, CLs (F.map IL)), (q1, CLs ((stp k s0 p i S').map IL))]) (XE.w (XLc.ls (xlcM (own := [("_law_i", 10)]) [10] (fun u : Nat => GT R0 W none (some (Rf qf)) (some (Rf q1)) (some (Vl (.int (k : Int)))) (some (Vl (.int m))) (some (Vl (.int (i : Int)))) (some (Vl (.int (p : Int)))) (some (Vl (.int ((at_ r k).fdiv (at_ s0 k))))) (some (Vl (.int (u : Int))))) (List.range W) (fun u : Nat => Vl (.int (u : Int))) (fun u : Nat => Vl (.int (at_ r u - (at_ r k).fdiv (at_ s0 k) * at_ s0 u))) rfl scTl.nd (xi_range (n := W) (by rfl) T'.range (v 1) (by omega)) (blkOk_by (N := nTl) (sc := defScope sTl) (by decide +kernel)) (fun _ _ _ => MO.nil) (len64 (by rw [List.length_range]; omega)) (by decide)
            (fun u hu s H C cl fp => xg_name (i := 10) scTl.nd rfl (.inl rfl)) (fun u hu s H C cl fp => xe_lend (Ps := (stp k s0 p i S').map IL) (.tail _ (.head _)) (lend_ls 4 rfl) (xe_op op_sub rv_i0 (xe_ix ix_list (fun _ _ => rfl) (rv_ixL (il_at (by have := List.mem_range.mp hu; omega))) (xe_ix ix_list (fun _ _ => rfl) (rv_ixL (ill_at hti)) (v 4) (v 7)) (v 10)) (xe_op op_mulW (rv_i (i := (at_ r k).fdiv (at_ s0 k)) (j := at_ s0 u) (mulOk (a := beta k + 1) (b := beta (k + 1)) (Nat.le_trans (fdiv_le hsk) q0) (b2 u) (by omega))) (v 9) (xe_ix ix_list (fun _ _ => rfl) (rv_ixL (il_at (by have := List.mem_range.mp hu; omega))) (xe_ix ix_list (fun _ _ => rfl) (rv_ixL (ill_at htp)) (v 4) (v 8)) (v 10))))))) fun v H p => ?_) (v 4) (v 7) (by rw [List.length_map, stp_len]; exact hi) ?_
          · rw [← red_map (hrl.trans hsl.symm), hrl]
            show (Ls ((List.map _ _).map _)).p v H
            rw [List.map_map]
            exact p
          · have es : ((stp k s0 p i S').map IL).set i (IL (red k s0 r)) = (stp k s0 p (i + 1) S').map IL := by
              rw [stp_step hir hip, List.map_set]
            rw [es]
            exact xs_nil2 fun σ H h => ⟨(), trivial, (h.unset 7).unset 9⟩
        · have hip : i = p := by
            have : ((i : Int) != (p : Int)) = false := ht.symm
            simp at this
            omega
          refine xs_nil fun σ H h => ⟨(), trivial, ?_⟩
          have es : stp k s0 p (i + 1) S' = stp k s0 p i S' := by
            rw [hip]
            exact stp_skip
          show stA _ _ _ [(qf, CLs (F.map IL)), (q1, CLs ((stp k s0 p (i + 1) S').map IL))] _ _
          rw [es]
          exact h.unset 7
      · rintro - -
        obtain ⟨A', B1, eS, eA⟩ := split_at hs0
        have es : stp k s0 p (rngP S'.length).length S' = A'.map (red k s0) ++ s0 :: B1.map (red k s0) := by
          rw [rngP_len, eS, ← eA]
          exact stp_end
        obtain ⟨st, lt⟩ := JI.step (A := A') (B := B1) (eS ▸ hJ) hsk (eS ▸ hmin) (eS ▸ h1)
        rw [es]
        refine xs_nil fun σ H h => ⟨_, st, ?_, (h.unset 6).unset 8⟩
        rw [eS]
        exact lt
    · have h1 : (S'.filter fun r => at_ r k != 0).length ≤ 1 := by
        have := of_decide_eq_false ht.symm
        rw [List.length_map] at this
        omega
      refine xs_named (M := [(qf, CLs (F.map IL))]) (q := q1) (Ps := S'.map IL) fun vs => ?_
      refine xs_for (ι := Unit) PassesOwn.never rfl (M1 := [(qf, CLs (F.map IL)), (q1, CLx vs (S'.map IL))]) (xi_list (XLc.ls (xlcF (own := [("_law_row_here", 2)]) [2] (fun r => GT R0 W (some (IL r)) (some (Rf qf)) (some (Rf q1)) (some (Vl (.int (k : Int)))) none none none none none) S' IL IL (fun r => at_ r k != 0) rfl scTl.nd (xi_cell (v 4) (.tail _ (.head _)) rfl) (blkOk_by (N := nTl) (sc := defScope sTl) (by decide +kernel)) (fun H0 H m => m.right (A := [(qf, CLs (F.map IL))])) (len64 (by omega)) (by decide)
        (fun r hr s H C cl fp => xg_name (i := 2) scTl.nd rfl (.inl rfl)) (fun r hr s H C cl fp => xts_one (xt_cmp op_ne rv_neI (xe_ix ix_list (fun _ _ => rfl) (rv_ixL (il_at (by rw [hl' r hr]; exact hk))) (v 2) (v 5)) xe_int (nomark _))) (fun r hr _ s H C cl fp => v 2)))) (fun _ _ => True) (fun _ _ => GT R0 W none (some (Rf qf)) (some (Rf q1)) (some (Vl (.int (k : Int)))) none none none none none) (fun i _ => [(qf, CLs ((F ++ ((S'.filter fun r => at_ r k != 0).take i).map (sgn k)).map IL)), (q1, CLx vs (S'.map IL))]) ⟨(), trivial, (fun _ _ h => h), rfl, fun _ _ h => by rw [List.take_zero, List.map_nil, List.append_nil]; exact h⟩ (fun _ _ _ _ _ _ => MO.nil) ?_ ?_
      · rintro i - Q B'' bl' hQ -
        obtain ⟨r, hir, rfl⟩ := ill_get hQ
        have hrS : r ∈ S' := (List.mem_filter.mp (List.mem_of_getElem? hir)).1
        have hrl := hl' r hrS
        have hle : ((S'.filter fun r => at_ r k != 0).take i).length ≤ 6 := Nat.le_trans (by rw [List.length_take]; exact Nat.min_le_right ..) (Nat.le_trans (List.length_filter_le ..) h6')
        refine ⟨[2], _, xg_name (i := 2) scTl.nd rfl (.inr rfl), ?_⟩
        show XS _ _ _ _ (GT R0 W (some (IL r)) (some (Rf qf)) (some (Rf q1)) (some (Vl (.int (k : Int)))) none none none none none) _ _
        refine xs_expr (P := Vl .non) (M1 := [(qf, CLs ((F ++ ((S'.filter fun r => at_ r k != 0).take (i + 1)).map (sgn k)).map IL)), (q1, CLx vs (S'.map IL))]) ?_ (xs_nil fun σ H h => ⟨(), trivial, h.unset 2⟩)
        have et : (F ++ ((S'.filter fun r => at_ r k != 0).take (i + 1)).map (sgn k)).map IL = (F ++ ((S'.filter fun r => at_ r k != 0).take i).map (sgn k)).map IL ++ [IL (sgn k r)] := by
          rw [List.take_add_one, hir]
          simp
        rw [et]
        refine xe_app (Ma := []) (Mb := [(q1, CLx vs (S'.map IL))]) (v 3) (XE.w (XLc.ls (xlcM (own := [("_law_n", 9)]) [9] (fun x : Int => GT R0 W (some (IL r)) (some (Rf qf)) (some (Rf q1)) (some (Vl (.int (k : Int)))) none none none (some (Vl (.int x))) none) r (fun x => Vl (.int x)) (fun x => Vl (.int (if 0 < at_ r k then x else -x))) rfl scTl.nd (xi_list (v 2)) (blkOk_by (N := nTl) (sc := defScope sTl) (by decide +kernel)) (fun _ _ _ => MO.nil) (len64 (by omega)) (by decide)
          (fun r hr s H C cl fp => xg_name (i := 9) scTl.nd rfl (.inl rfl)) (fun x hx s H C cl fp => xe_if (xt_cmp op_gt (rv_i0 (i := at_ r k) (j := 0)) (xe_ix ix_list (fun _ _ => rfl) (rv_ixL (il_at (by rw [hrl]; exact hk))) (v 2) (v 5)) xe_int (nomark _)) (fun ht => ?_) (fun ht => ?_) rfl))) fun v H p => ?_) ⟨_, .head _, fun o H ⟨vs, e, _⟩ => ⟨vs, e⟩⟩ (by rw [List.length_map, List.length_append, List.length_map, sizeLine_eq]; omega)
        · have ht : 0 < at_ r k := of_decide_eq_true ht.symm
          rw [if_pos ht]
          exact v 9
        · have ht : ¬ 0 < at_ r k := of_decide_eq_false ht.symm
          rw [if_neg ht]
          exact xe_un un_neg rv_neg (v 9)
        · rw [sgn_map]
          show (Ls ((List.map _ _).map _)).p v H
          rw [List.map_map]
          exact p
      · rintro - -
        rw [List.length_map, List.take_length]
        refine xs_setm (i := 4) (C := CLs ((S'.filter fun r => at_ r k == 0).map IL)) (M1 := [(qf, CLs ((F ++ (S'.filter fun r => at_ r k != 0).map (sgn k)).map IL)), (q1, CLx vs (S'.map IL))]) (XLc.xem (xlcF (own := [("_law_row_here", 2)]) [2] (fun r => GT R0 W (some (IL r)) (some (Rf qf)) (some (Rf q1)) (some (Vl (.int (k : Int)))) none none none none none) S' IL IL (fun r => at_ r k == 0) rfl scTl.nd (xi_cell (v 4) (.tail _ (.head _)) rfl) (blkOk_by (N := nTl) (sc := defScope sTl) (by decide +kernel)) (fun H0 H m => m.right (A := [(qf, CLs ((F ++ (S'.filter fun r => at_ r k != 0).map (sgn k)).map IL))])) (len64 (by omega)) (by decide)
          (fun r hr s H C cl fp => xg_name (i := 2) scTl.nd rfl (.inl rfl)) (fun r hr s H C cl fp => xts_one (xt_cmp op_eq rv_eqI (xe_ix ix_list (fun _ _ => rfl) (rv_ixL (il_at (by rw [hl' r hr]; exact hk))) (v 2) (v 5)) xe_int (nomark _))) (fun r hr _ s H C cl fp => v 2))) scTl.nd rfl (.inr rfl) fun q' => ?_
        refine XS.sub (M' := [(qf, CLs ((F ++ (S'.filter fun r => at_ r k != 0).map (sgn k)).map IL)), (q', CLs ((S'.filter fun r => at_ r k == 0).map IL))]) (.cons₂ _ (.cons _ (.cons₂ _ .slnil))) ?_
        exact xs_nil fun σ H h => ⟨(F ++ (S'.filter fun r => at_ r k != 0).map (sgn k), S'.filter fun r => at_ r k == 0, q'), ti_next hT hJ h1, h.unset 5⟩
  · rintro ⟨F, S, q1⟩ hT
    have hT : TI W W (rngP W).length R0 F.reverse S := hT
    rw [rngP_len] at hT
    have hFS : F.length + S.length ≤ 6 := by
      have := hT.num
      rw [List.length_append, List.length_reverse] at this
      omega
    refine xs_for (ι := List Row × List Row) PassesOwn.never rfl (M1 := [(qf, CLs (F.map IL)), (q1, CLs (S.map IL))]) (xi_rev (n := F.length) (by rfl) T'.reversed (by rfl) T'.range (XE.w (xe_lend (Ps := F.map IL) (z := .int ((F.map IL).length : Int)) (.head _) (lend_ls 3 rfl) (xe_callB call_len_seq rc_lenL (by rfl) T'.len bt_len (xa_cons (v 3) xa_nil))) fun v H p => ?_) (by omega)) (fun i a => a.2.length + i = F.length ∧ ∃ done, RI W W done a.1 a.2 ∧ done ++ a.2 = F.reverse) (fun _ _ => GT R0 W none (some (Rf qf)) (some (Rf q1)) none none none none none none) (fun _ a => [(qf, CLs ((a.2.reverse ++ a.1).map IL)), (q1, CLs (S.map IL))]) ⟨([], F.reverse), ⟨by simp, [], RI.init hT hW, rfl⟩, (fun _ _ h => h), rfl, fun _ _ h => by rw [List.reverse_reverse, List.append_nil]; exact h⟩ (fun _ _ _ _ _ _ => MO.nil) ?_ ?_
    · rw [List.length_map] at p
      exact p
    · rintro i ⟨acc, todo⟩ Q B' bl hQ ⟨hl, done, hR, hd⟩
      have hi : i < F.length := by
        have := (List.getElem?_eq_some_iff.mp hQ).1
        rw [revP_len] at this
        exact this
      rw [revP_at hi] at hQ
      cases hQ
      have hl : todo.length + i = F.length := hl
      have hR : RI W W done acc todo := hR
      have hd : done ++ todo = F.reverse := hd
      match todo, hl, hR, hd with
      | [], hl, _, _ =>
        simp at hl
        omega
      | row :: todo, hl, hR, hd =>
        have ej : F.length - 1 - i = todo.length := by
          rw [List.length_cons] at hl
          omega
        rw [ej]
        refine ⟨[7], _, xg_name (i := 7) scTl.nd rfl (.inr rfl), ?_⟩
        show XS _ _ _ _ (GT R0 W none (some (Rf qf)) (some (Rf q1)) none none (some (Vl (.int (todo.length : Int)))) none none none) [(qf, CLs (((row :: todo).reverse ++ acc).map IL)), (q1, CLs (S.map IL))] _
        have eP : ((row :: todo).reverse ++ acc).map IL = (todo.reverse.map IL) ++ IL row :: acc.map IL := by
          rw [List.reverse_cons, List.append_assoc, List.map_append]
          rfl
        have eL : (todo.reverse.map IL).length = todo.length := by rw [List.length_map, List.length_reverse]
        rw [eP]
        have e1 : (todo.reverse.map IL ++ IL row :: acc.map IL)[todo.length]? = some (IL row) := by
          rw [List.getElem?_append_right (by omega), eL, Nat.sub_self]
          rfl
        have e2 : (todo.reverse.map IL ++ IL row :: acc.map IL).drop (todo.length + 1) = acc.map IL := by
          rw [← eL, List.drop_append, List.drop_of_length_le (by omega), Nat.add_sub_cancel_left]
          rfl
        have e3 : (todo.reverse.map IL ++ IL row :: acc.map IL).set todo.length (IL (redBy W acc row)) = (todo.reverse ++ redBy W acc row :: acc).map IL := by
          rw [← eL, List.set_append_right _ _ (Nat.le_refl _), Nat.sub_self, List.map_append]
          rfl
        obtain ⟨c, hc1, hc2, hc3, hc4⟩ := hR.lead row (.head _)
        have hbd : Bd (2 ^ 17492) row := hc4.mono (Nat.pow_le_pow_right (by decide) (beta6 ▸ beta_mono (show c + 1 ≤ 6 by omega)))
        refine xs_lset (n := todo.length) (Ps := todo.reverse.map IL ++ IL row :: acc.map IL) (P := IL (redBy W acc row)) (Ma := []) (Mb := [(q1, CLs (S.map IL))]) (M1 := [(qf, CLs (todo.reverse.map IL ++ IL row :: acc.map IL)), (q1, CLs (S.map IL))]) (xpw cLs hr (acc, row, W, 17492) (xa_cons (XE.w (xe_cfrom (n := todo.length + 1) (v 3) (XE.w (xe_op op_add (rv_i0 (i := (todo.length : Int)) (j := 1)) (v 7) xe_int) fun _ _ p => p) (.head _)) fun v H p => ?_) (xa_cons (xe_cix (v 3) (v 7) (.head _) (fun _ _ => rfl) e1) xa_nil)) ⟨hR.tri, hR.len row (.head _), hbd, ?_, by show W ≤ 12; omega, Nat.le_refl _⟩ fun _ _ p => p) (v 3) (v 7) (by rw [List.length_append, eL, List.length_cons]; omega) ?_
        · rw [e2] at p
          exact p
        · have := hR.tot_le
          show 17492 + tot acc < 1000000
          omega
        · rw [e3]
          refine xs_nil fun σ H h => ⟨(redBy W acc row :: acc, todo), ⟨?_, done ++ [row], hR.step hW, ?_⟩, h.unset 7⟩
          · show todo.length + (i + 1) = F.length
            rw [List.length_cons] at hl
            omega
          · rw [List.append_assoc]
            exact hd
    · rintro ⟨acc, todo⟩ ⟨hl, done, hR, hd⟩
      have hl : todo.length + (revP F.length).length = F.length := hl
      rw [revP_len] at hl
      have e0 : todo = [] := List.length_eq_zero_iff.mp (by omega)
      subst e0
      have hd : done ++ [] = F.reverse := hd
      rw [List.append_nil] at hd
      have hR : RI W W done acc [] := hR
      rw [hd] at hR
      refine XS.sub (M' := [(qf, CLs (acc.map IL))]) (.cons₂ _ (.cons _ .slnil)) ?_
      refine xs_shut (M := []) (by rw [hB]; exact List.not_mem_nil) (lend_ls 3 rfl) ?_
      exact xs_done hrt (v 3) fun v H p => ⟨acc, ⟨S, TI.tria hT hR hW⟩, p⟩
end
end Y
/-! text Mf -/
set_option Elab.async false
set_option linter.all false
set_option maxRecDepth 100000
namespace Mt
theorem comb_spn {R' : List Row} : ∀ (f : List Int) (R : List Row), (∀ r ∈ R, r ∈ R') → Spn R' (fun j => comb f R j)
  | [], _, _ => Spn.zero
  | _ :: _, [], _ => Spn.zero
  | c :: f, r :: R, h => (Spn.add c (comb_spn f R fun x hx => h x (.tail _ hx)) (h r (.head _))).cg fun j => by
    show comb f R j + c * at_ r j = c * at_ r j + comb f R j
    rw [Int.add_comm]
theorem spn_comb {R : List Row} {g : Nat → Int} (h : Spn R g) : ∃ f : List Int, f.length = R.length ∧ ∀ j, g j = comb f R j := by
  refine h.prop (fun g => ∃ f : List Int, f.length = R.length ∧ ∀ j, g j = comb f R j) ⟨List.replicate R.length 0, by simp, fun j => comb_zero.symm⟩ ?_
  rintro g r k ⟨f, hl, hf⟩ hr
  obtain ⟨i, hi⟩ := List.getElem?_of_mem hr
  have hu : (unit R.length i).length = R.length := unit_len _ _
  refine ⟨List.zipWith (fun a b => a + k * b) f (unit R.length i), by rw [List.length_zipWith, hl, hu, Nat.min_self], fun j => ?_⟩
  rw [comb_lin k (hl.trans hu.symm), ← hf j, comb_get hi hu fun m hm => ?_]
  rw [hu] at hm
  unfold unit
  rw [List.getElem?_map, List.getElem?_range hm]
  rfl
theorem in_span {W : Nat} {R0 T S : List Row} {vec : Row} (hT : Tri W W T) (he : Eqv (T ++ S) R0) (hz : ∀ r ∈ S, ∀ j, j < W → at_ r j = 0) (hv : vec.length = W) : (∀ j, at_ (redBy W T vec) j = 0) ↔ ∃ f : List Int, ∀ j, j < W → at_ vec j = comb f R0 j := by
  obtain ⟨u1, u2, _, u4⟩ := redBy_ok hT hv
  generalize hu : redBy W T vec = u at *
  constructor
  · intro h
    have h1 : Spn R0 (fun j => -1 * (at_ u j - at_ vec j)) := ((he _).mp (u2.mono fun _ => List.mem_append_left _)).smul (-1)
    obtain ⟨f, _, hf⟩ := spn_comb h1
    refine ⟨f, fun j _ => ?_⟩
    have h2 : -1 * (at_ u j - at_ vec j) = comb f R0 j := hf j
    rw [← h2, h j]
    omega
  · rintro ⟨f, hf⟩ j
    by_cases hj : j < W
    · have h1 : Spn (T ++ S) (fun j => (at_ u j - at_ vec j) + comb f R0 j) := Spn.plus (u2.mono fun _ => List.mem_append_left _) ((he _).mpr (comb_spn f R0 fun _ h => h))
      have hsame : ∀ j, j < W → (at_ u j - at_ vec j) + comb f R0 j = at_ u j := fun j hj => by
        rw [hf j hj]
        omega
      have h2 := tri_zero hz hT h1 (fun b hb c hc => by
        obtain ⟨d, hd, hd2, _⟩ := hT.lead b hb
        have := hd2.uniq hc
        subst this
        rw [hsame d hd]
        exact u4 b hb d hc) j hj
      rw [← hsame j hj]
      exact h2
    · exact at_out (by omega)
end Mt
/-! text ZM -/
set_option Elab.async false
set_option linter.all false
set_option maxRecDepth 100000
namespace Y
open PySem PySem.Spec PyProof.Rows L2 Mt
theorem zer_iff {r : Row} : zer r = true ↔ ∀ j, at_ r j = 0 := by
  show (r.filter fun n => n != 0).isEmpty = true ↔ _
  rw [List.isEmpty_iff, List.filter_eq_nil_iff]
  constructor
  · intro h j
    by_cases hj : j < r.length
    · have h2 := h r[j] (List.getElem_mem hj)
      unfold at_
      rw [List.getD_eq_getElem?_getD, List.getElem?_eq_getElem hj]
      simpa using h2
    · exact at_out (by omega)
  · intro h x hx
    obtain ⟨j, hj, rfl⟩ := List.getElem_of_mem hx
    have h2 := h j
    unfold at_ at h2
    rw [List.getD_eq_getElem?_getD, List.getElem?_eq_getElem hj] at h2
    simpa using h2
theorem rowK_at {ws : List Str} {a b : DD} {j : Nat} (h : j < ws.length) : at_ (rowK ws a b) j = gt a ws[j] - gt b ws[j] := by
  unfold rowK at_
  rw [List.getD_eq_getElem?_getD, List.getElem?_map, List.getElem?_eq_getElem h]
  rfl
theorem rowK_len {ws : List Str} {a b : DD} : (rowK ws a b).length = ws.length := by
  unfold rowK
  rw [List.length_map]
theorem comb_rows {ws : List Str} {j : Nat} (h : j < ws.length) : ∀ (f : List Int) (ps : List (DD × DD)), comb f (rowsK ws ps) j = cmbK f ps ws[j]
  | [], _ => by
    show (0 : Int) = _
    unfold cmbK
    rfl
  | _ :: _, [] => rfl
  | c :: f, q :: ps => by
    show c * at_ (rowK ws q.1 q.2) j + comb f (rowsK ws ps) j = c * (gt q.1 ws[j] - gt q.2 ws[j]) + cmbK f ps ws[j]
    rw [rowK_at h, comb_rows h f ps]
theorem mem_nzk {d : DD} {k : Str} (h : gt d k ≠ 0) : k ∈ nzk d := by
  refine List.mem_filter.mpr ⟨?_, by simpa using h⟩
  refine Classical.byContradiction fun hn => h (gt_none hn)
theorem mem_udl {ps : List (DD × DD)} {q : DD × DD} (hq : q ∈ ps) {k : Str} (h : gt q.1 k ≠ 0 ∨ gt q.2 k ≠ 0) : k ∈ udl ps := by
  unfold udl
  rcases h with h | h
  · exact List.mem_flatMap.mpr ⟨q.1, List.mem_append_left _ (List.mem_map.mpr ⟨q, hq, rfl⟩), mem_nzk h⟩
  · exact List.mem_flatMap.mpr ⟨q.2, List.mem_append_right _ (List.mem_map.mpr ⟨q, hq, rfl⟩), mem_nzk h⟩
/-- the words of the law's own triangle -/
abbrev wsE (ps : List (DD × DD)) (a b : DD) : List Str := srt (srt (udl ps) ++ ks a ++ ks b)
theorem eq_iff {ps : List (DD × DD)} {a b : DD} : (∃ f : List Int, ∀ j, j < (wsE ps a b).length → at_ (rowK (wsE ps a b) a b) j = comb f (rowsK (wsE ps a b) ps) j) ↔ Eqk ps a b := by
  constructor
  · rintro ⟨f, hf⟩
    refine ⟨f, fun k => ?_⟩
    by_cases hk : k ∈ wsE ps a b
    · obtain ⟨j, hj, rfl⟩ := List.getElem_of_mem hk
      rw [← rowK_at hj, hf j hj, comb_rows hj]
    · have hk' : k ∉ srt (udl ps) ++ ks a ++ ks b := fun h => hk ((srt_mem _ _).mpr h)
      have h1 : k ∉ ks a := fun h => hk' (List.mem_append_left _ (List.mem_append_right _ h))
      have h2 : k ∉ ks b := fun h => hk' (List.mem_append_right _ h)
      have h3 : k ∉ udl ps := fun h => hk' (List.mem_append_left _ (List.mem_append_left _ ((srt_mem _ _).mpr h)))
      rw [gt_none h1, gt_none h2, cmb_out f ps fun q hq => ?_]
      · rfl
      · refine ⟨Classical.byContradiction fun h => h3 (mem_udl hq (.inl h)), Classical.byContradiction fun h => h3 (mem_udl hq (.inr h))⟩
  · rintro ⟨f, hf⟩
    exact ⟨f, fun j hj => by rw [rowK_at hj, hf, comb_rows hj]⟩
structure PreE (ps : List (DD × DD)) (a b : DD) : Prop where
  n : ps.length ≤ 6
  l : ∀ d ∈ sds ps, d.length < 64
  u : (udl ps).length < 64
  kk : (srt (udl ps) ++ ks a ++ ks b).length < 64
  la : a.length < 64
  lb : b.length < 64
  w6 : (wsE ps a b).length ≤ 6
  bd : ∀ q ∈ ps, ∀ k, (gt q.1 k - gt q.2 k).natAbs ≤ 2 ^ 20
  bv : ∀ k, (gt a k - gt b k).natAbs ≤ 2 ^ 300000
theorem PreE.tr {ps : List (DD × DD)} {a b : DD} (h : PreE ps a b) : PreTR (wsE ps a b).length (wsE ps a b).length (rowsK (wsE ps a b) ps) := by
  refine ⟨fun r hr => ?_, fun r hr => ?_, ?_, by have := h.w6; omega, h.w6, Nat.le_refl _⟩
  · obtain ⟨q, _, rfl⟩ := List.mem_map.mp hr
    exact rowK_len
  · obtain ⟨q, hq, rfl⟩ := List.mem_map.mp hr
    refine bd_of fun x hx => ?_
    obtain ⟨k, _, rfl⟩ := List.mem_map.mp hx
    exact h.bd q hq k
  · show (ps.map _).length ≤ 6
    rw [List.length_map]
    exact h.n
section
variable {P : Program} {w : World} {K : PySem.W.Frag} {mg : Str → Option Value} {base : Heap}
abbrev sEq : Stmt := top 77
abbrev nEq : List Str := ["_law_rules_here", "_law_left", "_law_right", "_law_words_here"]
theorem scEq : FnScope nEq ["_law_rules_here", "_law_left", "_law_right"] (defScope sEq) := ⟨rfl, rfl, rfl, by decide +kernel, rfl, by decide +kernel, by decide +kernel⟩
abbrev spEq : Sp := spP (α := List (DD × DD) × DD × DD) (fun q => PreE q.1 q.2.1 q.2.2) (fun q => [LPd q.1, Dc q.2.1, Dc q.2.2]) (fun q => ExP (fun b : Bool => b = true ↔ Eqk q.1 q.2.1 q.2.2) fun b => Vl (.bl b))
theorem c_Eq (D : Dfn K mg "_law_is_equal" sEq ["_law_rules_here", "_law_left", "_law_right"]) (T : Bt mg) (cUd : Cal P w K mg base 2 "_law_used" ["_law_pairs"] spUd) (cTl : Cal P w K mg base 3 "_law_triangle" ["_law_rows_here", "_law_width"] spTl)
    (cRs : Cal P w K mg base 2 "_law_rows" ["_law_words_here", "_law_pairs"] spRs) (cRo : Cal P w K mg base 1 "_law_row" ["_law_words_here", "_law_left", "_law_right"] spRo) (cIi : Cal P w K mg base 3 "_law_is_in" nIi spIi) : Cal P w K mg base 4 "_law_is_equal" ["_law_rules_here", "_law_left", "_law_right"] spEq := D.cal fun f fd F => by
  refine fn_ok F scEq (fun _ _ => rfl) ?_
  rintro ⟨ps, a, b⟩ h cdv A outer s H E B D hB hr hrt hnx
  have h : PreE ps a b := h
  have hn := h.n
  have hkk := h.kk
  have hw6 := h.w6
  rw [List.length_append, List.length_append] at hkk
  refine xs_set (i := 3) (P := TL (wsE ps a b)) (M1 := []) (xe_sortset (ks := srt (udl ps) ++ ks a ++ ks b) (P := TL (srt (udl ps) ++ ks a ++ ks b)) (XE.w (xe_op op_cat (rv_cat (Ps := (srt (udl ps)).map (fun k => Vl (.str k)) ++ (ks a).map (fun k => Vl (.str k))) (Qs := (ks b).map fun k => Vl (.str k)) ?_) (xe_op op_cat (rv_cat (Ps := (srt (udl ps)).map fun k => Vl (.str k)) (Qs := (ks a).map fun k => Vl (.str k)) ?_) (xpw cUd (hr.mono (by omega)) ps (xa_cons (v 0) xa_nil) ⟨by show ps.length < 64; omega, h.l, h.u⟩ fun _ _ p => p) (xe_callTy (call_listD rfl) rc_listD (by rfl) T.list PyProof.Rows.boot_list (xa_cons (v 1) xa_nil))) (xe_callTy (call_listD rfl) rc_listD (by rfl) T.list PyProof.Rows.boot_list (xa_cons (v 2) xa_nil))) fun v H p => ?_) (fun v H p => .inl p) h.kk T.sorted T.set) scEq.nd rfl (.inl rfl) ?_
  · rw [List.length_append, List.length_map, List.length_map, List.length_map, sizeLine_eq]
    omega
  · rw [List.length_map, List.length_map, sizeLine_eq]
    omega
  · show (Ls ((srt (udl ps) ++ ks a ++ ks b).map _)).p v H
    rw [List.map_append, List.map_append]
    exact p
  · have hv : (rowK (wsE ps a b) a b).length = (wsE ps a b).length := rowK_len
    refine xs_done hrt (xcX (β := List Row) (Ps := [ExP (fun T => ∃ S, Tria (wsE ps a b).length (wsE ps a b).length (rowsK (wsE ps a b) ps) T S) ILL, IL (rowK (wsE ps a b) a b)]) (M1 := []) (M2 := []) [] cIi hr (fun T => ∃ S, Tria (wsE ps a b).length (wsE ps a b).length (rowsK (wsE ps a b) ps) T S) (fun T => (T, rowK (wsE ps a b) a b, (wsE ps a b).length, 300000))
      (xa_cons (xpw cTl hr (rowsK (wsE ps a b) ps, (wsE ps a b).length) (xa_cons (xpw cRs (hr.mono (by omega)) (wsE ps a b, ps) (xa_cons (v 3) (xa_cons (v 0) xa_nil)) ⟨by show (wsE ps a b).length < 64; omega, by show ps.length < 64; omega⟩ fun _ _ p => p) (xa_cons (XE.w (xe_callB call_len_seq rc_lenL (by rfl) T.len bt_len (xa_cons (v 3) xa_nil)) fun v H p => ?_) xa_nil)) h.tr fun _ _ p => p)
        (xa_cons (xpw cRo (hr.mono (by omega)) (wsE ps a b, a, b) (xa_cons (v 3) (xa_cons (v 1) (xa_cons (v 2) xa_nil))) (by show (wsE ps a b).length < 64; omega) fun _ _ p => p) xa_nil))
      (fun vs H hv => ?_) (fun T hT => ?_) (fun _ _ => rfl) (fun _ _ => rfl) (fun T hT v H p => ?_))
    · rw [List.length_map] at p
      exact p
    · match vs, hv with
      | [x, y], ⟨⟨T, hT, h1⟩, h2, _⟩ => exact ⟨T, hT, h1, h2, trivial⟩
    · obtain ⟨S, hT⟩ := hT
      refine ⟨hT.tri, hv, bd_of fun x hx => ?_, ?_, by show (wsE ps a b).length ≤ 12; omega, Nat.le_refl _⟩
      · obtain ⟨k, _, rfl⟩ := List.mem_map.mp hx
        exact h.bv k
      · have := hT.tot
        show 300000 + tot T < 1000000
        omega
    · obtain ⟨S, hT⟩ := hT
      exact ⟨_, zer_iff.trans ((in_span hT.tri hT.eqv hT.zero hv).trans eq_iff), p⟩
end
end Y
/-! text ZN -/
set_option Elab.async false
set_option linter.all false
set_option maxRecDepth 100000
namespace Y
open PySem PySem.Spec PyProof.Rows L2 Mt
/-- a dict of moved counts -/
structure Mv (N : Nat) (kk : List Str) (d : DD) : Prop where
  nd : (ks d).Nodup
  sub : ∀ k ∈ ks d, k ∈ kk
  bd : ∀ k, (gt d k).natAbs ≤ N
theorem Mv.put {N N' : Nat} {kk : List Str} {d : DD} {k : Str} {z : Int} (h : Mv N kk d) (hk : k ∈ kk) (hz : z.natAbs ≤ N') (hN : N ≤ N') : Mv N' kk (put d k z) := by
  refine ⟨nodup_put h.nd k z, fun j hj => ?_, fun j => ?_⟩
  · rw [ks_put] at hj
    split at hj
    · exact h.sub j hj
    · rcases List.mem_append.mp hj with hj | hj
      · exact h.sub j hj
      · rw [List.mem_singleton.mp hj]
        exact hk
  · rw [gt_put]
    split
    · exact hz
    · exact Nat.le_trans (h.bd j) hN
theorem Mv.mono {N N' : Nat} {kk : List Str} {d : DD} (h : Mv N kk d) (hN : N ≤ N') : Mv N' kk d := ⟨h.nd, h.sub, fun k => Nat.le_trans (h.bd k) hN⟩
theorem Mv.len {N : Nat} {kk : List Str} {d : DD} (h : Mv N kk d) : d.length ≤ kk.length := by
  have := nodup_le h.nd h.sub
  rw [ks_len] at this
  exact this
theorem gt_bd {d : DD} {N : Int} (h0 : 0 ≤ N) (h : ∀ p ∈ d, 0 ≤ p.2 ∧ p.2 ≤ N) (k : Str) : 0 ≤ gt d k ∧ gt d k ≤ N := by
  cases e : gv d k with
  | none =>
    have : gt d k = 0 := by unfold gt; rw [e]; rfl
    omega
  | some z =>
    have e2 : gt d k = z := by unfold gt; rw [e]; rfl
    rw [e2]
    exact h _ (mem_of_gv e)
theorem Dn.gt {N : Nat} {kk : List Str} {d : DD} (h : Dn N kk d) (k : Str) : 0 ≤ Y.gt d k ∧ Y.gt d k ≤ (N : Int) := gt_bd (by omega) h.bd k
theorem Dn.mv {N : Nat} {kk : List Str} {d : DD} (h : Dn N kk d) : Mv N kk d := ⟨h.nd, h.sub, fun k => by have := h.gt k; omega⟩
section
variable {X : Cx} {G : Gam} {M : Ml} {q : Addr} {C : CP} {B : Bs} {D : Ends} {sts : List Stmt}
/-- a cell stays from here on -/
theorem xs_shutG {G' : Gam} (hB : B.A = ads M) (hG : ∀ (σ : St) H0 o, SL G σ H0 → H0 q = none → C.p o H0 → SL G' σ (upd H0 q o)) (h : XS X [] sts B G' M D) : XS X [] sts B G (M ++ [(q, C)]) D := ⟨fun σ H ⟨H0, g, l, m, fr⟩ => by
  have hq : B.h q = none := by
    rcases fr q (by simp [ads]) with z | z
    · have := m.1
      rw [ads_app] at this
      rw [hB] at z
      exact absurd rfl ((List.nodup_append.mp this).2.2 q z q (by simp [ads]))
    · exact z
  obtain ⟨h1, o, h2, h3⟩ := m.2 (q, C) (List.mem_append_right _ (.head _))
  have h2 : H q = some o := h2
  have h1 : H0 q = none := h1
  obtain ⟨o', ho', hH, g2, m2, sm⟩ := m.shut g hq
  have eo : o' = o := by
    rw [h2] at hH
    exact (Option.some.inj hH).symm
  subst eo
  exact h.run σ H ⟨_, g2, hG σ H0 _ l h1 h3, m2, fun b hb => fr b (by rw [ads_app]; exact List.mem_append_left _ hb)⟩⟩
theorem sl_shutO {P : VP} {o : HO} {σ : St} {H0 : Hp} (l : SL G σ H0) (hq : H0 q = none) (i : Nat) (hi : G[i]? = some (some (Rf q))) (hp : P.p (.ref q) (upd H0 q o)) : SL (G.set i (some P)) σ (upd H0 q o) := by
  have sm : Same H0 (upd H0 q o) := fun b u e => by
    rw [upd_ne (ne_of_none e hq)]
    exact e
  obtain ⟨v, e, p⟩ := l.2 i _ hi
  have p : v = .ref q := p
  subst p
  have q1 := SL.set (i := i) (v := .ref q) (P := P) (l.mono sm) hp
  have eq : σ.set i (some (.ref q)) = σ := by
    apply List.ext_getElem?
    intro j
    rw [List.getElem?_set]
    split
    · rename_i ej
      subst ej
      split
      · exact e.symm
      · rename_i hl
        have : σ[i]? = none := List.getElem?_eq_none_iff.mpr (by omega)
        rw [this] at e
        cases e
    · rfl
  rw [eq] at q1
  exact q1
end
theorem cd_get {d : DD} {k : Str} : ((valV (ofD d) (.inr k)).getD (.int 0)) = .int (gt d k) := by
  rw [valV_of]
  unfold gt
  cases gv d k <;> rfl
section
variable {P : Program} {w : World} {K : PySem.W.Frag} {mg : Str → Option Value} {base : Heap}
abbrev sMo : Stmt := top 78
abbrev nMo : List Str := ["_law_pen_here", "_law_rules_here", "_law_given", "_law_words_here", "_law_found", "_law_left", "_law_right", "_law_n", "_law_word"]
theorem scMo : FnScope nMo ["_law_pen_here", "_law_rules_here", "_law_given", "_law_words_here"] (defScope sMo) := ⟨rfl, rfl, rfl, by decide +kernel, rfl, by decide +kernel, by decide +kernel⟩
abbrev Qm := Addr × Nat × (List Str × List (DD × DD)) × DD × List Str
structure PreMo (y : Qm) : Prop where
  n : y.2.1 < 600000
  ru : OkRu y.2.2.1
  gi : Dn 2000000 y.2.2.2.2 y.2.2.2.1
  sub : ∀ k ∈ y.2.2.1.1, k ∈ y.2.2.2.2
  kk : y.2.2.2.2.length ≤ 6
abbrev bigM : Nat := 100000000000000
abbrev spMo : Sp := spG (α := Qm) PreMo (fun y => [Rf y.1, LPd y.2.2.1.2, Dc y.2.2.2.1, TL y.2.2.1.1]) (fun y => [(y.1, CPen y.2.1)]) (fun y => ExP (Mv bigM y.2.2.2.2) Dc) (fun y => [(y.1, CPen (y.2.1 + 60))])
abbrev mvP : List VP := [Vl (.int 0), Vl (.int 1), Vl (.int (-1)), Vl (.int 2), Vl (.int (-3)), Tm]
theorem mv_ii : ∀ v H, (OneOf mvP).p v H → (II fun z => -1000000 ≤ z ∧ z ≤ 1000000).p v H := fun v H ⟨P, hP, p⟩ => by
  simp only [mvP, List.mem_cons, List.not_mem_nil, or_false] at hP
  rcases hP with rfl | rfl | rfl | rfl | rfl | rfl
  · exact ⟨0, by decide, p⟩
  · exact ⟨1, by decide, p⟩
  · exact ⟨-1, by decide, p⟩
  · exact ⟨2, by decide, p⟩
  · exact ⟨-3, by decide, p⟩
  · obtain ⟨t, ht, p⟩ := p
    exact ⟨(t : Int), ⟨by omega, by have := ht.2; omega⟩, p⟩
abbrev mvP2 : List VP := [Vl (.int 1), Vl (.int (-1)), Vl (.int 2), Vl (.int 6), Tm]
theorem mv_ii2 : ∀ v H, (OneOf mvP2).p v H → (II fun z => -1000000 ≤ z ∧ z ≤ 1000000).p v H := fun v H ⟨P, hP, p⟩ => by
  simp only [mvP2, List.mem_cons, List.not_mem_nil, or_false] at hP
  rcases hP with rfl | rfl | rfl | rfl | rfl
  · exact ⟨1, by decide, p⟩
  · exact ⟨-1, by decide, p⟩
  · exact ⟨2, by decide, p⟩
  · exact ⟨6, by decide, p⟩
  · obtain ⟨t, ht, p⟩ := p
    exact ⟨(t : Int), ⟨by omega, by have := ht.2; omega⟩, p⟩
theorem mulAbs {a b : Int} {x y : Nat} (ha : a.natAbs ≤ x) (hb : b.natAbs ≤ y) : (a * b).natAbs ≤ x * y := by
  rw [Int.natAbs_mul]
  exact Nat.mul_le_mul ha hb
theorem c_Mo (D : Dfn K mg "_law_moved" sMo ["_law_pen_here", "_law_rules_here", "_law_given", "_law_words_here"]) (T : Bt mg) (cDr : Cal P w K mg base 1 "_law_draw" ["_law_pen_here", "_law_many"] spDr) (cTi : Cal P w K mg base 3 "_law_times" ["_law_pen_here"] spTi) (cPk : Cal P w K mg base 2 "_law_pick" ["_law_pen_here", "_law_options"] spPk) : Cal P w K mg base 4 "_law_moved" ["_law_pen_here", "_law_rules_here", "_law_given", "_law_words_here"] spMo := D.cal fun f fd F => by
  refine fn_ok F scMo (fun _ _ => rfl) ?_
  rintro ⟨q, n, ⟨ws, ps⟩, d, kk⟩ ⟨hn, hru, hgi, hsub, hkk⟩ cdv A outer s H E B D hB hr hrt hnx
  have hn : n < 600000 := hn
  have hps : ps.length ≤ 6 := hru.n
  have hl2 : 2 ≤ ws.length := hru.l2
  have hl5 : ws.length ≤ 5 := hru.l5
  have hgi : Dn 2000000 kk d := hgi
  have hsub : ∀ k ∈ ws, k ∈ kk := hsub
  have hkk : kk.length ≤ 6 := hkk
  have hbig : bigM = 100000000000000 := rfl
  refine xs_setm (i := 4) (C := CDc d) (M1 := [(q, CPen n)]) (xem_dict (v 2) T.dict bt_dict) scMo.nd rfl (.inl rfl) fun qf => ?_
  refine xs_for (ι := DD) PassesOwn.never rfl (M1 := [(q, CPen n), (qf, CDc d)]) (xi_list (v 1)) (fun i e => Mv (2000000 + 12 * i * 1000000000000) kk e) (fun _ _ => [some (Rf q), some (LPd ps), some (Dc d), some (TL ws), some (Rf qf), none, none, none, none]) (fun i e => [(q, CPen (n + 8 * i)), (qf, CDc e)]) ⟨d, hgi.mv.mono (by omega), (fun _ _ h => h), rfl, fun _ _ h => h⟩ (fun _ _ _ _ _ _ => MO.nil) ?_ ?_
  · rintro i e Q B' bl hQ he
    have he : Mv (2000000 + 12 * i * 1000000000000) kk e := he
    obtain ⟨u, hu, rfl⟩ := gmap hQ
    have hi : i < ps.length := (List.getElem?_eq_some_iff.mp hu).1
    obtain ⟨hu1, hu2⟩ := hru.pr u (List.mem_of_getElem? hu)
    have hu1 : Dn 1000000 ws u.1 := hu1
    have hu2 : Dn 1000000 ws u.2 := hu2
    have k1 := hu1.len
    have k2 := hu2.len
    refine ⟨[5, 6], _, xg_tup rfl (xgs_cons (xg_name (i := 5) scMo.nd rfl (.inl rfl)) (xgs_cons (xg_name (i := 6) scMo.nd rfl (.inl rfl)) xgs_nil)), ?_⟩
    show XS _ _ _ _ [some (Rf q), some (LPd ps), some (Dc d), some (TL ws), some (Rf qf), some (Dc u.1), some (Dc u.2), none, none] [(q, CPen (n + 8 * i)), (qf, CDc e)] _
    refine xs_set (i := 7) (P := II fun z => -1000000 ≤ z ∧ z ≤ 1000000) (M1 := [(q, CPen (n + 8 * i + 8)), (qf, CDc e)]) (xcq [(qf, CDc e)] cPk (hr.mono (by omega)) (q, n + 8 * i + 7, mvP) (xa_cons (v 0) (xa_cons (xe_lst (xa_cons xe_int (xa_cons xe_int (xa_cons (xe_un un_neg rv_neg xe_int) (xa_cons xe_int (xa_cons (xe_un un_neg rv_neg xe_int) (xa_cons (xcq [(qf, CDc e)] cTi hr (q, n + 8 * i) (xa_cons (v 0) xa_nil) (by show n + 8 * i < 800000; omega) rfl rfl fun _ _ p => p) xa_nil)))))) (by rw [sizeLine_eq]; exact (by decide : 6 ≤ 16777216))) xa_nil)) ⟨by show n + 8 * i + 7 < 1000000; omega, (by decide : 0 < 6), (by decide : 6 < 1000000)⟩ rfl rfl mv_ii) scMo.nd rfl (.inl rfl) ?_
    refine xs_openI (i := 7) rfl fun z hz => ?_
    have hz : -1000000 ≤ z ∧ z ≤ 1000000 := hz
    show XS _ _ _ _ [some (Rf q), some (LPd ps), some (Dc d), some (TL ws), some (Rf qf), some (Dc u.1), some (Dc u.2), some (Vl (.int z)), none] [(q, CPen (n + 8 * i + 8)), (qf, CDc e)] _
    have hlk : (ks u.1 ++ ks u.2).length ≤ 10 := by
      rw [List.length_append, ks_len, ks_len]
      omega
    have hsl := srt_len (ks u.1 ++ ks u.2)
    refine xs_for (ι := DD) PassesOwn.never rfl (M1 := [(q, CPen (n + 8 * i + 8)), (qf, CDc e)]) (xi_list (xe_sortset (ks := ks u.1 ++ ks u.2) (P := TL (ks u.1 ++ ks u.2)) (XE.w (xe_op op_cat (rv_cat (Ps := (ks u.1).map fun k => Vl (.str k)) (Qs := (ks u.2).map fun k => Vl (.str k)) ?_) (xe_callTy (call_listD rfl) rc_listD (by rfl) T.list PyProof.Rows.boot_list (xa_cons (v 5) xa_nil)) (xe_callTy (call_listD rfl) rc_listD (by rfl) T.list PyProof.Rows.boot_list (xa_cons (v 6) xa_nil))) fun v H p => ?_) (fun v H p => .inl p) (by omega) T.sorted T.set)) (fun j e' => Mv (2000000 + 12 * i * 1000000000000 + j * 1000000000000) kk e') (fun _ _ => [some (Rf q), some (LPd ps), some (Dc d), some (TL ws), some (Rf qf), some (Dc u.1), some (Dc u.2), some (Vl (.int z)), none]) (fun _ e' => [(q, CPen (n + 8 * i + 8)), (qf, CDc e')]) ⟨e, he.mono (by omega), (fun _ _ h => h), rfl, fun _ _ h => h⟩ (fun _ _ _ _ _ _ => MO.nil) ?_ ?_
    · rw [List.length_map, List.length_map, ks_len, ks_len, sizeLine_eq]
      omega
    · show (Ls ((ks u.1 ++ ks u.2).map _)).p v H
      rw [List.map_append]
      exact p
    · rintro j e' Q B'' bl' hQ' he'
      have he' : Mv (2000000 + 12 * i * 1000000000000 + j * 1000000000000) kk e' := he'
      obtain ⟨k, hk, rfl⟩ := gmap hQ'
      have hj := (List.getElem?_eq_some_iff.mp hk).1
      have hkm : k ∈ kk := by
        have := (srt_mem _ _).mp (List.mem_of_getElem? hk)
        rcases List.mem_append.mp this with h | h
        · exact hsub k (hu1.sub k h)
        · exact hsub k (hu2.sub k h)
      have g1 := hu1.gt k
      have g2 := hu2.gt k
      have hd : (gt u.1 k - gt u.2 k).natAbs ≤ 1000000 := by omega
      have hzd : (z * (gt u.1 k - gt u.2 k)).natAbs ≤ 1000000 * 1000000 := mulAbs (by omega) hd
      have hb := he'.bd k
      refine ⟨[8], _, xg_name (i := 8) scMo.nd rfl (.inl rfl), ?_⟩
      show XS _ _ _ _ [some (Rf q), some (LPd ps), some (Dc d), some (TL ws), some (Rf qf), some (Dc u.1), some (Dc u.2), some (Vl (.int z)), some (Vl (.str k))] [(q, CPen (n + 8 * i + 8)), (qf, CDc e')] _
      refine xs_cput (k := k) (P := Vl (.int (gt e' k + z * (gt u.1 k - gt u.2 k)))) (C := CDc e') (C' := CDc (put e' k (gt e' k + z * (gt u.1 k - gt u.2 k)))) (Ma := [(q, CPen (n + 8 * i + 8))]) (Mb := []) (M1 := [(q, CPen (n + 8 * i + 8)), (qf, CDc e')]) (un1 hr) (xe_op op_add (rv_i0 (i := gt e' k) (j := z * (gt u.1 k - gt u.2 k))) (XE.w (xe_cget2 (C := CDc e') (kvs := ofD e') (z := .int 0) (un1 hr) (v 4) (v 8) xe_int (.tail _ (.head _)) (.tail _ (.head _)) (fun o H h => h)) fun v H p => ?_) (xe_op op_mulW (rv_i (i := z) (j := gt u.1 k - gt u.2 k) (mulOk (a := 20) (b := 20) (by show _ ≤ 1048576; omega) (by show _ ≤ 1048576; omega) (by decide))) (v 7) (xe_op op_sub (rv_i0 (i := gt u.1 k) (j := gt u.2 k)) (xe_dget2 (un1 hr) (v 5) (v 8) xe_int) (xe_dget2 (un1 hr) (v 6) (v 8) xe_int)))) (v 4) (v 8) (fun x o H hx ho => ?_) ?_
      · rw [← cd_get]
        exact p
      · have hx : x = .int (gt e' k + z * (gt u.1 k - gt u.2 k)) := hx
        have ho : o = .dK (ofD e') := ho
        subst hx
        refine ⟨ofD e', ho, ?_, ?_⟩
        · have := he'.len
          unfold ofD
          rw [List.length_map, sizeLine_eq]
          omega
        · show HO.dK _ = HO.dK _
          rw [ofD_put]
      · exact xs_nil fun σ H h => ⟨put e' k (gt e' k + z * (gt u.1 k - gt u.2 k)), he'.put hkm (by omega) (by omega), h.unset 8⟩
    · rintro e' he'
      have he' : Mv (2000000 + 12 * i * 1000000000000 + ((srt (ks u.1 ++ ks u.2)).map fun k => Vl (.str k)).length * 1000000000000) kk e' := he'
      rw [List.length_map] at he'
      exact xs_nil fun σ H h => ⟨e', he'.mono (by omega), ((h.unset 5).unset 6).unset 7⟩
  · rintro e he
    have he : Mv (2000000 + 12 * (ps.map Pd).length * 1000000000000) kk e := he
    rw [List.length_map] at he ⊢
    refine xs_when (M1 := [(q, CPen (n + 8 * ps.length + 1)), (qf, CDc e)]) (p := fun _ => True) (xt_cmpX op_eq (P1 := Dg 3) (P2 := Vl (.int 0)) (fun x y H H0 s ⟨d, hd, p1⟩ p2 Q k => rv_eqI (i := d) (j := 0) x y H H0 s p1 p2 Q fun z H' H0' g pz => k z H' H0' g ⟨_, trivial, pz⟩) (xcq [(qf, CDc e)] cDr (hr.mono (by omega)) (q, n + 8 * ps.length, 3) (xa_cons (v 0) (xa_cons xe_int xa_nil)) ⟨by show n + 8 * ps.length < 1000000; omega, (by decide : 0 < 3), (by decide : 3 < 1000000)⟩ rfl rfl fun _ _ p => p) xe_int (nomark _)) (fun _ => ?_) (fun _ => ?_)
    · refine xs_set (i := 8) (P := Tx ws) (M1 := [(q, CPen (n + 8 * ps.length + 2)), (qf, CDc e)]) (xcq [(qf, CDc e)] cPk (hr.mono (by omega)) (q, n + 8 * ps.length + 1, ws.map fun k => Vl (.str k)) (xa_cons (v 0) (xa_cons (v 3) xa_nil)) ⟨by show n + 8 * ps.length + 1 < 1000000; omega, by show 0 < (ws.map _).length; rw [List.length_map]; omega, by show (ws.map _).length < 1000000; rw [List.length_map]; omega⟩ rfl rfl oneOf_tx) scMo.nd rfl (.inl rfl) ?_
      refine xs_open (i := 8) (f := fun k : Str => k ∈ ws) (Q := fun k => Vl (.str k)) rfl fun k hk => ?_
      have hb := he.bd k
      show XS _ _ _ _ [some (Rf q), some (LPd ps), some (Dc d), some (TL ws), some (Rf qf), none, none, none, some (Vl (.str k))] [(q, CPen (n + 8 * ps.length + 2)), (qf, CDc e)] _
      refine xs_cput (k := k) (P := II fun z => z.natAbs ≤ bigM) (C := CDc e) (C' := CEx (Mv bigM kk) CDc) (Ma := [(q, CPen (n + 8 * ps.length + 10))]) (Mb := []) (M1 := [(q, CPen (n + 8 * ps.length + 10)), (qf, CDc e)]) (un1 hr) (xe_op op_add (P1 := Vl (.int (gt e k))) (P2 := II fun z => -1000000 ≤ z ∧ z ≤ 1000000) (rv_of fun x y H H0 s p1 ⟨z, hz, p2⟩ Q kq => ⟨gt e k, z, p1, p2, kq _ ⟨gt e k + z, ?_, rfl⟩⟩) (XE.w (xe_cget2 (C := CDc e) (kvs := ofD e) (z := .int 0) (un1 hr) (v 4) (v 8) xe_int (.tail _ (.head _)) (.tail _ (.head _)) (fun o H h => h)) fun v H p => ?_) (xcq [(qf, CDc e)] cPk (hr.mono (by omega)) (q, n + 8 * ps.length + 9, mvP2) (xa_cons (v 0) (xa_cons (xe_lst (xa_cons xe_int (xa_cons (xe_un un_neg rv_neg xe_int) (xa_cons xe_int (xa_cons xe_int (xa_cons (xcq [(qf, CDc e)] cTi hr (q, n + 8 * ps.length + 2) (xa_cons (v 0) xa_nil) (by show n + 8 * ps.length + 2 < 800000; omega) rfl rfl fun _ _ p => p) xa_nil))))) (by rw [sizeLine_eq]; exact (by decide : 5 ≤ 16777216))) xa_nil)) ⟨by show n + 8 * ps.length + 9 < 1000000; omega, (by decide : 0 < 5), (by decide : 5 < 1000000)⟩ rfl rfl mv_ii2)) (v 4) (v 8) (fun x o H hx ho => ?_) ?_
      · have hz : -1000000 ≤ z ∧ z ≤ 1000000 := hz
        show (gt e k + z).natAbs ≤ bigM
        omega
      · rw [← cd_get]
        exact p
      · obtain ⟨z, hz, hx⟩ := hx
        have hx : x = .int z := hx
        have ho : o = .dK (ofD e) := ho
        subst hx
        refine ⟨ofD e, ho, ?_, put e k z, he.put (hsub k hk) hz (by omega), ?_⟩
        · have := he.len
          unfold ofD
          rw [List.length_map, sizeLine_eq]
          omega
        · show HO.dK _ = HO.dK _
          rw [ofD_put]
      · refine xs_nil fun σ H h => XS.run (G := [some (Rf q), some (LPd ps), some (Dc d), some (TL ws), some (Rf qf), none, none, none, none]) (M := [(q, CPen (n + 8 * ps.length + 10))] ++ [(qf, CEx (Mv bigM kk) CDc)]) (L := []) (B := B) ?_ σ H (h.unset 8)
        refine xs_shutG (G' := [some (Rf q), some (LPd ps), some (Dc d), some (TL ws), some (ExP (Mv bigM kk) Dc), none, none, none, none]) hB (fun σ H0 o l h1 ⟨e', he', h2⟩ => sl_shutO (P := ExP (Mv bigM kk) Dc) l h1 4 rfl ⟨e', he', qf, rfl, ?_⟩) ?_
        · have h2 : o = .dK (ofD e') := h2
          rw [upd_same, h2]
        · exact xs_done hrt (v 4) (fun _ _ p => p) (mo_w (pen_w (by show _ ≤ n + 60; omega)))
    · refine xs_shutG (M := [(q, CPen (n + 8 * ps.length + 1))]) (G' := [some (Rf q), some (LPd ps), some (Dc d), some (TL ws), some (Dc e), none, none, none, none]) hB (fun σ H0 o l h1 h2 => sl_shutO (P := Dc e) l h1 4 rfl ⟨qf, rfl, ?_⟩) ?_
      · have h2 : o = .dK (ofD e) := h2
        rw [upd_same, h2]
      · exact xs_done hrt (v 4) (fun v H p => ⟨e, he.mono (by omega), p⟩) (mo_w (pen_w (by show _ ≤ n + 60; omega)))
end
end Y
/-! text ZO -/
set_option Elab.async false
set_option linter.all false
set_option maxRecDepth 100000
namespace Y
open PySem PySem.Spec PyProof.Rows L2 Mt
theorem take_succ_mem {l : List Str} {j : Nat} {k' : Str} (h : l[j]? = some k') (k : Str) : k ∈ l.take (j + 1) ↔ k ∈ l.take j ∨ k = k' := by
  rw [List.take_add_one, h]
  simp
theorem take_new {l : List Str} (hn : l.Nodup) {j : Nat} {k' : Str} (h : l[j]? = some k') : k' ∉ l.take j := fun hm => by
  have h1 : (l.take (j + 1)).Nodup := hn.sublist (List.take_sublist ..)
  rw [List.take_add_one, h] at h1
  exact (List.nodup_append.mp h1).2.2 k' hm k' (by simp) rfl
theorem acc_step {l : List Str} (hn : l.Nodup) {j : Nat} {k' : Str} (hj : l[j]? = some k') (φ bs : Str → Int) {h : DD} (hh : ∀ k, gt h k = bs k + (if k ∈ l.take j then φ k else 0)) (k : Str) :
    gt (put h k' (gt h k' + φ k')) k = bs k + (if k ∈ l.take (j + 1) then φ k else 0) := by
  rw [gt_put]
  by_cases e : k = k'
  · subst e
    rw [if_pos rfl, if_pos ((take_succ_mem hj k).mpr (.inr rfl)), hh k, if_neg (take_new hn hj)]
    omega
  · rw [if_neg e, hh k]
    by_cases hk : k ∈ l.take j
    · rw [if_pos hk, if_pos ((take_succ_mem hj k).mpr (.inl hk))]
    · rw [if_neg hk, if_neg fun h => (((take_succ_mem hj k).mp h).elim hk e)]
theorem gt_in {d : DD} {k : Str} (h : k ∉ ks d) (c : Int) : (0 : Int) = c * gt d k := by
  rw [gt_none h]
  simp
/-- keys of a hand -/
structure Hd (kk : List Str) (d : DD) : Prop where
  nd : (ks d).Nodup
  sub : ∀ k ∈ ks d, k ∈ kk
theorem Hd.put {kk : List Str} {d : DD} {k : Str} {z : Int} (h : Hd kk d) (hk : k ∈ kk) : Hd kk (put d k z) := by
  refine ⟨nodup_put h.nd k z, fun j hj => ?_⟩
  rw [ks_put] at hj
  split at hj
  · exact h.sub j hj
  · rcases List.mem_append.mp hj with hj | hj
    · exact h.sub j hj
    · rw [List.mem_singleton.mp hj]
      exact hk
theorem Hd.len {kk : List Str} {d : DD} (h : Hd kk d) : d.length ≤ kk.length := by
  have := nodup_le h.nd h.sub
  rw [ks_len] at this
  exact this
section
variable {ps : List (DD × DD)} {n : Nat} {q : DD × DD} {t : Int} {k : Str}
theorem pq_nz (h : ps[n]? = some q) : pq (ps.map nz2) n = nz2 q := by
  unfold pq
  rw [List.getElem?_map, h]
  rfl
theorem gvn_raw (h : ps[n]? = some q) (ht : t ≠ 0) : gt (gvn (ps.map nz2) (n, t)) k = (t.natAbs : Int) * gt (if 0 < t then q.1 else q.2) k := by
  show gt (ti (gsd (pq (ps.map nz2) n) t) (t.natAbs : Int)) k = _
  rw [pq_nz h]
  unfold gsd
  by_cases h0 : 0 < t
  · rw [if_neg (by omega), if_pos h0, ti_gt (nz_nrm _).nd, nz_gt, Int.mul_comm]
  · rw [if_pos (by omega), if_neg h0, ti_gt (nz_nrm _).nd, nz_gt, Int.mul_comm]
theorem tkn_raw (h : ps[n]? = some q) : gt (tkn (ps.map nz2) (n, t)) k = (t.natAbs : Int) * gt (if 0 < t then q.2 else q.1) k := by
  show gt (ti (tsd (pq (ps.map nz2) n) t) (t.natAbs : Int)) k = _
  rw [pq_nz h]
  unfold tsd
  by_cases h0 : 0 < t
  · rw [if_pos h0, if_pos h0, ti_gt (nz_nrm _).nd, nz_gt, Int.mul_comm]
  · rw [if_neg h0, if_neg h0, ti_gt (nz_nrm _).nd, nz_gt, Int.mul_comm]
end
theorem exK_sub {ps : List (DD × DD)} {kk : List Str} (h : ∀ q ∈ ps, (∀ k ∈ ks q.1, k ∈ kk) ∧ ∀ k ∈ ks q.2, k ∈ kk) {k : Str} (hk : k ∈ exK (ps.map nz2)) : k ∈ kk := by
  have h1 := (srt_mem _ _).mp hk
  obtain ⟨d, hd, hkd⟩ := List.mem_flatMap.mp h1
  obtain ⟨q, hq, hdq⟩ := List.mem_flatMap.mp hd
  obtain ⟨u, hu, rfl⟩ := List.mem_map.mp hq
  have hdq : d ∈ [nz u.1, nz u.2] := hdq
  rcases List.mem_cons.mp hdq with e | hdq
  · rw [e] at hkd
    exact (h u hu).1 k (nz_ks _ _ hkd)
  · rw [List.mem_singleton.mp hdq] at hkd
    exact (h u hu).2 k (nz_ks _ _ hkd)
theorem bor_sub {ps : List (DD × DD)} {kk : List Str} {f : List Int} (hok : OkP (ps.map nz2)) (hl : f.length = (ps.map nz2).length) (h : ∀ q ∈ ps, (∀ k ∈ ks q.1, k ∈ kk) ∧ ∀ k ∈ ks q.2, k ∈ kk) {k : Str} (hk : k ∈ ks (bor (ps.map nz2) f)) : k ∈ kk := by
  refine Classical.byContradiction fun hn => ?_
  have h1 := ((bor_nrm (ps.map nz2) f).ks k).mp hk
  have h2 := hnd_out (a := []) hok hl (k := k) (by intro h; cases h) (fun h' => hn (exK_sub h h')) 0
  refine h1 ?_
  have h3 : gt (hnd (ps.map nz2) [] f 0) k = gt (pl (· + ·) [] (bor (ps.map nz2) f)) k := rfl
  rw [h3, pl_gt (by rfl)] at h2
  have h4 : gt ([] : DD) k = 0 := rfl
  rw [h4] at h2
  have h2 : 0 + gt (bor (ps.map nz2) f) k = 0 := h2
  omega
section
variable {X : Cx} {L : List Addr} {e : Expr} {G : Gam} {M M1 : Ml} {pos : Pos}
/-- dict(pairs) as a new cell -/
theorem xem_dictP {α : Type} {kf : α → Str} {vf : α → Int} {xs : List α} {p : Pos} (ha : XE X L e G M (Ls (xs.map fun x => Tp [Vl (.str (kf x)), Vl (.int (vf x))])) M1) (hm : X.mg "dict" = none) (hv : bootBuiltins "dict" = some (.type "dict")) (hc : X.calm = true := by rfl) (hg : Gl X "dict" := by rfl) (he : starEach [e] X.env = (false, eval e X.env) :: starEach [] X.env := by rfl) (hpl : (backTo pos (starEach [] X.env)).any (·.1) = false := by rfl) : XEm X L (.Call (.Name "dict" p) [e] [] pos) G M (CDc (mk kf vf xs)) M1 :=
  ⟨ha.ad, fun σ H H0 s l m Q k pins sh I => (pe_callTy (call_dictP hc) hg hm hv (pa_cons pW pa_nil he) (by decide) (by decide) he hpl).run pins sh σ H Q I (ha.then_ s l m fun v H1 H01 g1 s1 l1 m1 ⟨a, vs, ev, hl, hvs⟩ => by
    obtain ⟨qs, e1, hp⟩ := prs_of (K := X.K) kf vf s1 hvs
    subst e1
    refine ⟨a, qs, _, by rw [ev], SqL.of (s1.lst hl), hp, fun p hp => ?_⟩
    have hpn : H p = none := by
      cases e : H p with
      | none => rfl
      | some o => exact absurd hp (g1.live p (by rw [e]; simp))
    rw [merge_mk]
    obtain ⟨g2, m2⟩ := cell_laid (Cp := CDc (mk kf vf xs)) (o := .dK (ofD (mk kf vf xs))) s1 m1 hp rfl
    exact k p _ H01 (g1.tr (by rw [← ha.ad]; exact g2)) m2 hpn)⟩
end
end Y
/-! text ZP -/
set_option Elab.async false
set_option linter.all false
set_option maxRecDepth 100000
namespace Y
open PySem PySem.Spec PyProof.Rows L2 Mt
structure PreDo (ps : List (DD × DD)) (a b : DD) (f : Row) : Prop where
  lo : PreLo (ps.map nz2) a b
  fac : FacK (ps.map nz2) a b (some f)
  kk : ∃ kk : List Str, kk.length ≤ 8 ∧ (∀ k ∈ kk, Wd k) ∧ (∀ k ∈ ks a, k ∈ kk) ∧ ∀ q ∈ ps, okPd kk q
section
variable {P : Program} {w : World} {K : PySem.W.Frag} {mg : Str → Option Value} {base : Heap} {C : Addr}
abbrev sDo : Stmt := top 79
abbrev nDo : List Str := ["_law_rules_here", "_law_one", "_law_other", "_law_told", "_law_word", "_law_hand", "_law_use", "_law_left", "_law_right", "_law_given", "_law_got", "_law_n"]
theorem scDo : FnScope nDo ["_law_rules_here", "_law_one", "_law_other", "_law_told"] (defScope sDo) := ⟨rfl, rfl, rfl, by decide +kernel, rfl, by decide +kernel, by decide +kernel⟩
abbrev Qd := List (DD × DD) × DD × DD × Row
abbrev spDo (C : Addr) : Sp := spP (α := Qd) (fun y => PreDo y.1 y.2.1 y.2.2.1 y.2.2.2) (fun y => [LPd y.1, Ld C y.2.1, Ld C y.2.2.1, Td C (y.1.map nz2) y.2.2.2]) (fun _ => Vl (.bl true))
abbrev GD (C : Addr) (ps : List (DD × DD)) (a b : DD) (f : Row) (a4 a5 a6 a7 a8 a9 a10 a11 : Option VP) : Gam := [some (LPd ps), some (Ld C a), some (Ld C b), some (Td C (ps.map nz2) f), a4, a5, a6, a7, a8, a9, a10, a11]
theorem c_Do (D : Dfn K mg "_law_is_done" sDo ["_law_rules_here", "_law_one", "_law_other", "_law_told"]) (T' : Bt mg) (Z : LdF K C) (hL : mg "Load" = some (.ref C)) (cLC : PCal P w K mg base 1 C "counts" (spLC C)) (cLK : PCal P w K mg base 1 C "kinds" (spLK C)) (cLG : MCal P w K mg base 1 C "__getitem__" ["self", "kind"] (spLG C))
    (cLA : MCal P w K mg base 6 C "__add__" ["self", "other"] (spLP C (· + ·))) (cLF : KCal P w K mg base 5 C "of" (spLF C)) (cIn : Cal P w K mg base 1 "_law_is_int" ["_law_thing"] spII) : Cal P w K mg base 7 "_law_is_done" ["_law_rules_here", "_law_one", "_law_other", "_law_told"] (spDo C) := D.cal fun f fd F => by
  refine fn_ok F scDo (fun _ _ => rfl) ?_
  rintro ⟨ps, a, b, f⟩ hp cdv A outer s H E B D hB hr hrt hnx
  obtain ⟨hlo, ⟨hfl, hfe, hfb⟩, kk, hk8, hkw, hka, hkq⟩ : PreDo ps a b f := hp
  have hok := hlo.co.ok
  have hn6 : ps.length ≤ 6 := by
    have := hok.n6
    rw [List.length_map] at this
    exact this
  have hla := hlo.la
  have hlb := hlo.lb
  have hbl := bor_len hok hfl
  have hnl := nzs_len f
  have hfl' : f.length = ps.length := by rw [hfl, List.length_map]
  have hap : ∀ k, 0 ≤ gt a k := (ng_empty hlo.ra).mp hlo.na
  have hbp : ∀ k, 0 ≤ gt (bor (ps.map nz2) f) k := (ng_empty (bor_nrm _ _)).mp (bor_ge hok hfl)
  have hsub : ∀ q ∈ ps, (∀ k ∈ ks q.1, k ∈ kk) ∧ ∀ k ∈ ks q.2, k ∈ kk := fun q hq => ⟨(hkq q hq).1.sub, (hkq q hq).2.sub⟩
  obtain ⟨gA, fA, FA, mA, bA, _⟩ := cLA.ex
  have lt64 : (ks a ++ ks (bor (ps.map nz2) f)).length < 64 := by
    rw [List.length_append, ks_len, ks_len]
    omega
  refine xs_when (p := (· = false)) (XT.w (XW.xt (xw_or (xt_notk (xt_val (xe_callB call_isi (rc_isi (.ty "tuple") ty_tup kit_same) (by rfl) T'.isinstance bt_isi (xa_cons (v 3) (xa_cons (xe_bt T'.tuple bt_tuple rfl) xa_nil))))) fun _ => xw_or (xt_cmp op_ne rv_neI (xe_callB call_len_seq rc_lenT (by rfl) T'.len bt_len (xa_cons (v 3) xa_nil)) xe_int (nomark _)) fun _ => xw_or (xt_notk (xt_val (xe_callB call_isi (rc_isi (.own C) (ty_ins Z.ik) kit_same) (by rfl) T'.isinstance bt_isi (xa_cons (xe_ix ix_tup (fun _ _ => rfl) (rv_ixT (n := 0) (P := Ld C (bor (ps.map nz2) f)) rfl) (v 3) xe_int) (xa_cons (xe_gl hL rfl) xa_nil))))) fun _ => xw_one (xt_notk (xt_val (xe_callB call_isi (rc_isi (.ty "list") ty_lst kit_same) (by rfl) T'.isinstance bt_isi (xa_cons (xe_ix ix_tup (fun _ _ => rfl) (rv_ixT (n := 1) (P := Ls (usP f)) rfl) (v 3) xe_int) (xa_cons (xe_bt T'.list bt_list rfl) xa_nil))))))) fun b e => ?_) (fun ht => by cases ht) (fun _ => ?_)
  · rw [e]
    rfl
  have hneg : (bor (ps.map nz2) f).filter (fun q => decide (q.2 < 0)) = [] := by
    rw [List.filter_eq_nil_iff]
    intro q hq h
    have h1 := hbp q.1
    have h2 : gt (bor (ps.map nz2) f) q.1 = q.2 := by
      unfold gt
      rw [gv_of_mem (bor_nrm _ _).nd hq]
      rfl
    have := of_decide_eq_true h
    omega
  refine xs_when (M1 := []) (p := (· = (!([] : List Int).isEmpty))) (xt_cmp (op_neD (ru hr)) (rv_neIL0 (xs := [])) (XE.w (XLc.ls (xlcF (own := [("_law_n", 11)]) [11] (fun q : Str × Int => GD C ps a b f none none none none none none none (some (Vl (.int q.2)))) (bor (ps.map nz2) f) (fun q => Vl (.int q.2)) (fun q => Vl (.int q.2)) (fun q => decide (q.2 < 0)) rfl scDo.nd (xi_valsN (xem_prop (Cf := fun q => CDc q) cLC (hr.mono (by omega)) Z.ik.cl (xe_ix ix_tup (fun _ _ => rfl) (rv_ixT (n := 0) (P := Ld C (bor (ps.map nz2) f)) rfl) (v 3) xe_int) (bor (ps.map nz2) f) trivial rfl ld_isI)) (blkOk_by (N := nDo) (sc := defScope sDo) (by decide +kernel)) (fun _ _ h => h) (len64 (by omega)) (by decide)
    (fun r hr s H C cl fp => xg_name (i := 11) scDo.nd rfl (.inl rfl)) (fun q hq s H C cl fp => xts_one (xt_cmp op_lt (rv_i0 (i := q.2) (j := 0)) (v 11) xe_int (nomark _))) (fun q hq _ s H C cl fp => v 11))) fun v H p => ?_) (xe_lst xa_nil (Nat.zero_le _)) (nomark _)) (fun ht => by cases ht) (fun _ => ?_)
  · rw [hneg] at p
    exact p
  refine xs_setm (i := 5) (C := CDc (mk (fun k : Str => k) (fun k => gt a k + gt (bor (ps.map nz2) f) k) (ks a ++ ks (bor (ps.map nz2) f)))) (M1 := []) (xem_dictP (kf := fun k : Str => k) (vf := fun k => gt a k + gt (bor (ps.map nz2) f) k) (xs := ks a ++ ks (bor (ps.map nz2) f)) (XLc.ls (xlcM (own := [("_law_word", 4)]) [4] (fun k : Str => GD C ps a b f (some (Vl (.str k))) none none none none none none none) (ks a ++ ks (bor (ps.map nz2) f)) (fun k => Vl (.str k)) (fun k => Tp [Vl (.str k), Vl (.int (gt a k + gt (bor (ps.map nz2) f) k))]) rfl scDo.nd (xi_list (XE.w (xe_op op_cat (rv_cat (Ps := (ks a).map fun k => Vl (.str k)) (Qs := (ks (bor (ps.map nz2) f)).map fun k => Vl (.str k)) ?_) (xe_callTy call_list_of rc_listT (by rfl) T'.list PyProof.Rows.boot_list (xa_cons (xe_pr (P := TT' (ks a)) cLK (hr.mono (by omega)) Z.ik.cl (v 1) a trivial rfl ld_isI fun _ _ p => p) xa_nil)) (xe_callTy call_list_of rc_listT (by rfl) T'.list PyProof.Rows.boot_list (xa_cons (xe_pr (P := TT' (ks (bor (ps.map nz2) f))) cLK (hr.mono (by omega)) Z.ik.cl (xe_ix ix_tup (fun _ _ => rfl) (rv_ixT (n := 0) (P := Ld C (bor (ps.map nz2) f)) rfl) (v 3) xe_int) (bor (ps.map nz2) f) trivial rfl ld_isI fun _ _ p => p) xa_nil))) fun v H p => ?_)) (blkOk_by (N := nDo) (sc := defScope sDo) (by decide +kernel)) (fun _ _ h => h) (len64 lt64) (by decide)
    (fun r hr s H C cl fp => xg_name (i := 4) scDo.nd rfl (.inl rfl)) (fun k hk s H C' cl fp => xe_tup (xa_cons (v 4) (xa_cons (xe_op op_add (rv_i0 (i := gt a k) (j := gt (bor (ps.map nz2) f) k)) (xe_own cLG (hr.mono (by omega)) (v 1) (v 4) (a, k) trivial rfl ld_isI fun _ _ p => p) (xe_own cLG (hr.mono (by omega)) (xe_ix ix_tup (fun _ _ => rfl) (rv_ixT (n := 0) (P := Ld C (bor (ps.map nz2) f)) rfl) (v 3) xe_int) (v 4) (bor (ps.map nz2) f, k) trivial rfl ld_isI fun _ _ p => p)) xa_nil)) sl2))) T'.dict bt_dict) scDo.nd rfl (.inl rfl) fun qh => ?_
  · rw [List.length_map, List.length_map, ks_len, ks_len, sizeLine_eq]
    omega
  · show (Ls ((ks a ++ ks (bor (ps.map nz2) f)).map _)).p v H
    rw [List.map_append]
    exact p
  have hd0 : Hd kk (mk (fun k : Str => k) (fun k => gt a k + gt (bor (ps.map nz2) f) k) (ks a ++ ks (bor (ps.map nz2) f))) := by
    refine ⟨mk_nodup _ _ _, fun k hk => ?_⟩
    have := (mk_ks _ _ _ _).mp hk
    rw [List.map_id'] at this
    rcases List.mem_append.mp this with h | h
    · exact hka k h
    · exact bor_sub hok hfl hsub h
  have hg0 : ∀ k, gt (mk (fun k : Str => k) (fun k => gt a k + gt (bor (ps.map nz2) f) k) (ks a ++ ks (bor (ps.map nz2) f))) k = gt (hnd (ps.map nz2) a f 0) k := fun k => by
    have h1 : gt (hnd (ps.map nz2) a f 0) k = gt (pl (· + ·) a (bor (ps.map nz2) f)) k := rfl
    rw [h1, pl_gt (by rfl)]
    have h2 := mk_gv (fun k : Str => k) (fun k => gt a k + gt (bor (ps.map nz2) f) k) (fun k => gt a k + gt (bor (ps.map nz2) f) k) (ks a ++ ks (bor (ps.map nz2) f)) (fun _ _ => rfl) k
    rw [List.map_id'] at h2
    show (gv _ k).getD 0 = _
    rw [h2]
    by_cases hk : k ∈ ks a ++ ks (bor (ps.map nz2) f)
    · rw [if_pos hk]
      rfl
    · rw [if_neg hk, gt_none fun h => hk (List.mem_append_left _ h), gt_none fun h => hk (List.mem_append_right _ h)]
      rfl
  refine xs_for (ι := DD) PassesOwn.never rfl (M1 := [(qh, CDc (mk (fun k : Str => k) (fun k => gt a k + gt (bor (ps.map nz2) f) k) (ks a ++ ks (bor (ps.map nz2) f))))]) (xi_list (xe_ix ix_tup (fun _ _ => rfl) (rv_ixT (n := 1) (P := Ls (usP f)) rfl) (v 3) xe_int)) (fun i h => Hd kk h ∧ ∀ k, gt h k = gt (hnd (ps.map nz2) a f i) k) (fun _ _ => GD C ps a b f none (some (Rf qh)) none none none none none none) (fun _ h => [(qh, CDc h)]) ⟨_, ⟨hd0, hg0⟩, (fun _ _ h => h), rfl, fun _ _ h => h⟩ (fun _ _ _ _ _ _ => MO.nil) ?_ ?_
  · rintro i h Q B' bl hQ ⟨hh, hg⟩
    have hh : Hd kk h := hh
    have hg : ∀ k, gt h k = gt (hnd (ps.map nz2) a f i) k := hg
    obtain ⟨u, hiu, rfl⟩ := get_map hQ
    have hu := List.mem_of_getElem? hiu
    obtain ⟨k1, k2, k3, k4⟩ := nzs_at hfl hu
    obtain ⟨n, t⟩ := u
    have k2 : t ∈ f := k2
    have k3 : t ≠ 0 := k3
    have k4 : n < ps.length := by rw [List.length_map] at k4; exact k4
    have htb : t.natAbs ≤ 2 ^ 971832 := bd_mem hfb k2
    obtain ⟨q, hq⟩ : ∃ q, ps[n]? = some q := ⟨_, List.getElem?_eq_getElem k4⟩
    have hqm := List.mem_of_getElem? hq
    obtain ⟨hq1, hq2⟩ := hkq q hqm
    generalize eg : (if 0 < t then q.1 else q.2) = g
    generalize eg' : (if 0 < t then q.2 else q.1) = g'
    have hdg : Dn 1000000 kk g := by rw [← eg]; split <;> assumption
    have hdg' : Dn 1000000 kk g' := by rw [← eg']; split <;> assumption
    have hgn : ∀ k, gt (gvn (ps.map nz2) (n, t)) k = (t.natAbs : Int) * gt g k := fun k => by rw [gvn_raw hq k3, eg]
    have htk : ∀ k, gt (tkn (ps.map nz2) (n, t)) k = (t.natAbs : Int) * gt g' k := fun k => by rw [tkn_raw hq, eg']
    have hge : ∀ k, (t.natAbs : Int) * gt g k ≤ gt (hnd (ps.map nz2) a f i) k := fun k => by rw [← hgn]; exact hnd_ge hok hfl hap hiu k
    have hstep : ∀ k, gt (hnd (ps.map nz2) a f (i + 1)) k = gt (hnd (ps.map nz2) a f i) k - (t.natAbs : Int) * gt g k + (t.natAbs : Int) * gt g' k := fun k => by
      rw [hnd_step hiu, pl_gt (by rfl), pl_gt (by rfl), hgn, htk]
    have hmul : ∀ {d : DD}, Dn 1000000 kk d → ∀ k, CMulW (t.natAbs : Int) (gt d k) := fun hd k => by
      have := hd.gt k
      exact mulOk (a := 971832) (b := 20) htb (by show _ ≤ 1048576; omega) (by decide)
    refine ⟨[6], _, xg_name (i := 6) scDo.nd rfl (.inl rfl), ?_⟩
    show XS _ _ _ _ (GD C ps a b f none (some (Rf qh)) (some (Us n t)) none none none none none) [(qh, CDc h)] _
    refine xs_when (M1 := [(qh, CDc h)]) (p := (· = false)) (XT.w (XW.xt (xw_or (xt_notk (xt_val (xe_callB call_isi (rc_isi (.ty "tuple") ty_tup kit_same) (by rfl) T'.isinstance bt_isi (xa_cons (v 6) (xa_cons (xe_bt T'.tuple bt_tuple rfl) xa_nil))))) fun _ => xw_or (xt_cmp op_ne rv_neI (xe_callB call_len_seq rc_lenT (by rfl) T'.len bt_len (xa_cons (v 6) xa_nil)) xe_int (nomark _)) fun _ => xw_or (xt_notk (xt_val (xpw cIn (hr.mono (by omega)) (n : Int) (xa_cons (xe_ix ix_tup (fun _ _ => rfl) (rv_ixT (n := 0) (P := Vl (.int (n : Int))) rfl) (v 6) xe_int) xa_nil) trivial fun _ _ p => p))) fun _ => xw_one (xt_notk (xt_val (xpw cIn (hr.mono (by omega)) t (xa_cons (xe_ix ix_tup (fun _ _ => rfl) (rv_ixT (n := 1) (P := Vl (.int t)) rfl) (v 6) xe_int) xa_nil) trivial fun _ _ p => p))))) fun b e => ?_) (fun ht => by cases ht) (fun _ => ?_)
    · rw [e]
      rfl
    refine xs_when (M1 := [(qh, CDc h)]) (p := (· = false)) (XT.w (XW.xt (xw_or (xt_notk (xt_chain op_le op_lt (rv_i0 (i := 0) (j := (n : Int))) (rv_i0 (i := (n : Int)) (j := ((ps.map Pd).length : Int))) xe_int (xe_ix ix_tup (fun _ _ => rfl) (rv_ixT (n := 0) (P := Vl (.int (n : Int))) rfl) (v 6) xe_int) (xe_callB call_len_seq rc_lenL (by rfl) T'.len bt_len (xa_cons (v 0) xa_nil)))) fun _ => xw_one (xt_cmp op_eq (rv_eqI (i := t) (j := 0)) (xe_ix ix_tup (fun _ _ => rfl) (rv_ixT (n := 1) (P := Vl (.int t)) rfl) (v 6) xe_int) xe_int (nomark _)))) fun b e => ?_) (fun ht => by cases ht) (fun _ => ?_)
    · rw [e, List.length_map]
      have e1 : decide ((0 : Int) ≤ (n : Int)) = true := decide_eq_true (by omega)
      have e2 : decide ((n : Int) < (ps.length : Int)) = true := decide_eq_true (by omega)
      have e3 : (t == 0) = false := by simpa using k3
      rw [e1, e2, e3]
      rfl
    refine xs_asg (js := [7, 8]) (P := Pd q) (M1 := [(qh, CDc h)]) (xe_ix ix_list (fun _ _ => rfl) (rv_ixL (n := n) (by rw [List.getElem?_map, hq]; rfl)) (v 0) (xe_ix ix_tup (fun _ _ => rfl) (rv_ixT (n := 0) (P := Vl (.int (n : Int))) rfl) (v 6) xe_int)) (xg_tup rfl (xgs_cons (xg_name (i := 7) scDo.nd rfl (.inl rfl)) (xgs_cons (xg_name (i := 8) scDo.nd rfl (.inl rfl)) xgs_nil))) ?_
    show XS _ _ _ _ (GD C ps a b f none (some (Rf qh)) (some (Us n t)) (some (Dc q.1)) (some (Dc q.2)) none none none) [(qh, CDc h)] _
    refine xs_asg (js := [9, 10]) (P := Tp [Dc g, Dc g']) (M1 := [(qh, CDc h)]) (xe_if (xt_cmp op_gt (rv_i0 (i := t) (j := 0)) (xe_ix ix_tup (fun _ _ => rfl) (rv_ixT (n := 1) (P := Vl (.int t)) rfl) (v 6) xe_int) xe_int (nomark _)) (fun ht => ?_) (fun ht => ?_) rfl) (xg_tup rfl (xgs_cons (xg_name (i := 9) scDo.nd rfl (.inl rfl)) (xgs_cons (xg_name (i := 10) scDo.nd rfl (.inl rfl)) xgs_nil))) ?_
    · have ht : 0 < t := of_decide_eq_true ht.symm
      rw [← eg, ← eg', if_pos ht, if_pos ht]
      exact xe_tup (xa_cons (v 7) (xa_cons (v 8) xa_nil)) sl2
    · have ht : ¬ 0 < t := of_decide_eq_false ht.symm
      rw [← eg, ← eg', if_neg ht, if_neg ht]
      exact xe_tup (xa_cons (v 8) (xa_cons (v 7) xa_nil)) sl2
    show XS _ _ _ _ (GD C ps a b f none (some (Rf qh)) (some (Us n t)) (some (Dc q.1)) (some (Dc q.2)) (some (Dc g)) (some (Dc g')) none) [(qh, CDc h)] _
    refine xs_openW (i := 9) (f := fun _ : Addr => True) (Q := fun ag => Dca ag g) rfl dc_ex fun ag _ => ?_
    show XS _ _ _ _ (GD C ps a b f none (some (Rf qh)) (some (Us n t)) (some (Dc q.1)) (some (Dc q.2)) (some (Dca ag g)) (some (Dc g')) none) [(qh, CDc h)] _
    refine xs_lock1 (ι := DD) (d := ag) (kvs := g) (PR := Vl (.bl true)) (MR := []) (fun σ H0 l => ?_) List.not_mem_nil (fun h' => Hd kk h' ∧ ∀ k, gt h' k = gt (hnd (ps.map nz2) a f i) k - (t.natAbs : Int) * gt g k) (fun _ => GD C ps a b f none (some (Rf qh)) (some (Us n t)) (some (Dc q.1)) (some (Dc q.2)) (some (Dca ag g)) (some (Dc g')) none) (fun h' => [(qh, CDc h')])
      (fun B2 => x1_for (ι := DD) PassesOwn.never rfl (M1 := [(qh, CDc h)]) (xi_keysK (v 9) (.head _)) (fun j h' => Hd kk h' ∧ ∀ k, gt h' k = gt (hnd (ps.map nz2) a f i) k + (if k ∈ (ks g).take j then -((t.natAbs : Int) * gt g k) else 0)) (fun _ _ => GD C ps a b f none (some (Rf qh)) (some (Us n t)) (some (Dc q.1)) (some (Dc q.2)) (some (Dca ag g)) (some (Dc g')) none) (fun _ h' => [(qh, CDc h')]) ⟨h, ⟨hh, fun k => by rw [hg k]; simp⟩, (fun _ _ h => h), rfl, fun _ _ h => h⟩ (fun _ _ _ _ _ _ => MO.nil) ?_ ?_) (fun v H h => hrt v H (h.lift bl)) ?_
    · obtain ⟨v, _, _, e⟩ := l.2 9 _ rfl
      exact e
    · rintro j h' Q B3 bl3 hQ' ⟨hh', hg'⟩
      have hh' : Hd kk h' := hh'
      have hg' : ∀ k, gt h' k = gt (hnd (ps.map nz2) a f i) k + (if k ∈ (ks g).take j then -((t.natAbs : Int) * gt g k) else 0) := hg'
      obtain ⟨k', hk', rfl⟩ := gmap hQ'
      have hkm : k' ∈ ks g := List.mem_of_getElem? hk'
      obtain ⟨z0, hz0⟩ : ∃ z, gv g k' = some z := by
        have := gv_mem.mp hkm
        cases e : gv g k' with
        | none => exact absurd e this
        | some z => exact ⟨z, rfl⟩
      have ez : gt g k' = z0 := by unfold gt; rw [hz0]; rfl
      have hacc := acc_step hdg.nd hk' (fun k => -((t.natAbs : Int) * gt g k)) (fun k => gt (hnd (ps.map nz2) a f i) k) hg'
      have hnn : ¬ gt h' k' + -((t.natAbs : Int) * gt g k') < 0 := by
        have h1 := hg' k'
        rw [if_neg (take_new hdg.nd hk')] at h1
        have := hge k'
        omega
      generalize ez2 : gt h' k' + -((t.natAbs : Int) * gt g k') = z2 at hacc hnn
      refine ⟨[4], _, xg_name (i := 4) scDo.nd rfl (.inl rfl), ?_⟩
      show XS _ _ _ _ (GD C ps a b f (some (Vl (.str k'))) (some (Rf qh)) (some (Us n t)) (some (Dc q.1)) (some (Dc q.2)) (some (Dca ag g)) (some (Dc g')) none) [(qh, CDc h')] _
      refine xs_cput (k := k') (P := Vl (.int z2)) (C := CDc h') (C' := CDc (put h' k' z2)) (Ma := []) (Mb := []) (M1 := [(qh, CDc h')]) (un1 hr) (XE.w (xe_op op_sub (rv_i0 (i := gt h' k') (j := (t.natAbs : Int) * z0)) (XE.w (xe_cget2 (C := CDc h') (kvs := ofD h') (z := .int 0) (un1 hr) (v 5) (v 4) xe_int (.head _) (.head _) (fun o H h => h)) fun v H p => ?_) (xe_op op_mulW (rv_i (i := (t.natAbs : Int)) (j := z0) (ez ▸ hmul hdg k')) (xe_callB call_abs rc_abs (by rfl) T'.abs PyProof.Rows.boot_abs (xa_cons (xe_ix ix_tup (fun _ _ => rfl) (rv_ixT (n := 1) (P := Vl (.int t)) rfl) (v 6) xe_int) xa_nil)) (xe_dget (un1 hr) (XE.w (v 9) dca_dc) (v 4) hz0))) fun v H p => ?_) (v 5) (v 4) (fun x o H hx ho => ?_) ?_
      · rw [← cd_get]
        exact p
      · have p : v = .int (gt h' k' - (t.natAbs : Int) * z0) := p
        show v = .int z2
        rw [p, ← ez2, ez, Int.sub_eq_add_neg]
      · have hx : x = .int z2 := hx
        have ho : o = .dK (ofD h') := ho
        subst hx
        refine ⟨ofD h', ho, ?_, ?_⟩
        · have := hh'.len
          unfold ofD
          rw [List.length_map, sizeLine_eq]
          omega
        · show HO.dK _ = HO.dK _
          rw [ofD_put]
      refine xs_when (M1 := [(qh, CDc (put h' k' z2))]) (p := (· = decide (z2 < 0))) (xt_cmp op_lt (rv_i0 (i := z2) (j := 0)) (xe_cget (C := CDc (put h' k' z2)) (kvs := ofD (put h' k' z2)) (P := Vl (.int z2)) (v := .int z2) (un1 hr) (v 5) (v 4) (.head _) (fun o H h => ⟨h, rfl⟩) (by rw [valV_of, gv_put, if_pos rfl]; rfl)) xe_int (nomark _)) (fun ht => absurd (of_decide_eq_true ht.symm) hnn) (fun _ => ?_)
      exact xs_nil fun σ H h => ⟨put h' k' z2, ⟨hh'.put (hdg.sub k' hkm), hacc⟩, h.unset 4⟩
    · rintro h' ⟨hh', hg'⟩ σ H st
      have hg' : ∀ k, gt h' k = gt (hnd (ps.map nz2) a f i) k + (if k ∈ (ks g).take ((ks g).map fun k => Vl (.str k)).length then -((t.natAbs : Int) * gt g k) else 0) := hg'
      refine ⟨h', ⟨hh', fun k => ?_⟩, st⟩
      rw [hg' k, List.length_map, List.take_length]
      split
      · omega
      · rename_i hk
        rw [← gt_in hk (t.natAbs : Int)]
        omega
    rintro h ⟨hh, hg⟩
    refine xs_openW (i := 10) (f := fun _ : Addr => True) (Q := fun ag => Dca ag g') rfl dc_ex fun ag' _ => ?_
    show XS _ _ _ _ (GD C ps a b f none (some (Rf qh)) (some (Us n t)) (some (Dc q.1)) (some (Dc q.2)) (some (Dca ag g)) (some (Dca ag' g')) none) [(qh, CDc h)] _
    refine xs_lock1 (ι := DD) (d := ag') (kvs := g') (PR := Vl (.bl true)) (MR := []) (fun σ H0 l => ?_) List.not_mem_nil (fun h' => Hd kk h' ∧ ∀ k, gt h' k = gt (hnd (ps.map nz2) a f (i + 1)) k) (fun _ => GD C ps a b f none (some (Rf qh)) (some (Us n t)) (some (Dc q.1)) (some (Dc q.2)) (some (Dca ag g)) (some (Dca ag' g')) none) (fun h' => [(qh, CDc h')])
      (fun B2 => x1_for (ι := DD) PassesOwn.never rfl (M1 := [(qh, CDc h)]) (xi_keysK (v 10) (.head _)) (fun j h' => Hd kk h' ∧ ∀ k, gt h' k = (gt (hnd (ps.map nz2) a f i) k - (t.natAbs : Int) * gt g k) + (if k ∈ (ks g').take j then (t.natAbs : Int) * gt g' k else 0)) (fun _ _ => GD C ps a b f none (some (Rf qh)) (some (Us n t)) (some (Dc q.1)) (some (Dc q.2)) (some (Dca ag g)) (some (Dca ag' g')) none) (fun _ h' => [(qh, CDc h')]) ⟨h, ⟨hh, fun k => by rw [hg k]; simp⟩, (fun _ _ h => h), rfl, fun _ _ h => h⟩ (fun _ _ _ _ _ _ => MO.nil) ?_ ?_) (fun v H h => hrt v H (h.lift bl)) ?_
    · obtain ⟨v, _, _, e⟩ := l.2 10 _ rfl
      exact e
    · rintro j h' Q B3 bl3 hQ' ⟨hh', hg'⟩
      have hh' : Hd kk h' := hh'
      have hg' : ∀ k, gt h' k = (gt (hnd (ps.map nz2) a f i) k - (t.natAbs : Int) * gt g k) + (if k ∈ (ks g').take j then (t.natAbs : Int) * gt g' k else 0) := hg'
      obtain ⟨k', hk', rfl⟩ := gmap hQ'
      have hkm : k' ∈ ks g' := List.mem_of_getElem? hk'
      obtain ⟨z0, hz0⟩ : ∃ z, gv g' k' = some z := by
        have := gv_mem.mp hkm
        cases e : gv g' k' with
        | none => exact absurd e this
        | some z => exact ⟨z, rfl⟩
      have ez : gt g' k' = z0 := by unfold gt; rw [hz0]; rfl
      have hacc := acc_step hdg'.nd hk' (fun k => (t.natAbs : Int) * gt g' k) (fun k => gt (hnd (ps.map nz2) a f i) k - (t.natAbs : Int) * gt g k) hg'
      generalize ez2 : gt h' k' + (t.natAbs : Int) * gt g' k' = z2 at hacc
      refine ⟨[4], _, xg_name (i := 4) scDo.nd rfl (.inl rfl), ?_⟩
      show XS _ _ _ _ (GD C ps a b f (some (Vl (.str k'))) (some (Rf qh)) (some (Us n t)) (some (Dc q.1)) (some (Dc q.2)) (some (Dca ag g)) (some (Dca ag' g')) none) [(qh, CDc h')] _
      refine xs_cput (k := k') (P := Vl (.int z2)) (C := CDc h') (C' := CDc (put h' k' z2)) (Ma := []) (Mb := []) (M1 := [(qh, CDc h')]) (un1 hr) (XE.w (xe_op op_add (rv_i0 (i := gt h' k') (j := (t.natAbs : Int) * z0)) (XE.w (xe_cget2 (C := CDc h') (kvs := ofD h') (z := .int 0) (un1 hr) (v 5) (v 4) xe_int (.head _) (.head _) (fun o H h => h)) fun v H p => ?_) (xe_op op_mulW (rv_i (i := (t.natAbs : Int)) (j := z0) (ez ▸ hmul hdg' k')) (xe_callB call_abs rc_abs (by rfl) T'.abs PyProof.Rows.boot_abs (xa_cons (xe_ix ix_tup (fun _ _ => rfl) (rv_ixT (n := 1) (P := Vl (.int t)) rfl) (v 6) xe_int) xa_nil)) (xe_dget (un1 hr) (XE.w (v 10) dca_dc) (v 4) hz0))) fun v H p => ?_) (v 5) (v 4) (fun x o H hx ho => ?_) ?_
      · rw [← cd_get]
        exact p
      · have p : v = .int (gt h' k' + (t.natAbs : Int) * z0) := p
        show v = .int z2
        rw [p, ← ez2, ez]
      · have hx : x = .int z2 := hx
        have ho : o = .dK (ofD h') := ho
        subst hx
        refine ⟨ofD h', ho, ?_, ?_⟩
        · have := hh'.len
          unfold ofD
          rw [List.length_map, sizeLine_eq]
          omega
        · show HO.dK _ = HO.dK _
          rw [ofD_put]
      exact xs_nil fun σ H h => ⟨put h' k' z2, ⟨hh'.put (hdg'.sub k' hkm), hacc⟩, h.unset 4⟩
    · rintro h' ⟨hh', hg'⟩ σ H st
      have hg' : ∀ k, gt h' k = (gt (hnd (ps.map nz2) a f i) k - (t.natAbs : Int) * gt g k) + (if k ∈ (ks g').take ((ks g').map fun k => Vl (.str k)).length then (t.natAbs : Int) * gt g' k else 0) := hg'
      refine ⟨h', ⟨hh', fun k => ?_⟩, st⟩
      rw [hg' k, hstep, List.length_map, List.take_length]
      split
      · rfl
      · rename_i hk
        rw [← gt_in hk (t.natAbs : Int)]
    rintro h' ⟨hh', hg'⟩
    exact xs_nil fun σ H st => ⟨h', ⟨hh', hg'⟩, ((((st.unset 6).unset 7).unset 8).unset 9).unset 10⟩
  · rintro h ⟨hh, hg⟩
    have hh : Hd kk h := hh
    have hg : ∀ k, gt h k = gt (hnd (ps.map nz2) a f (usP f).length) k := hg
    have hlen : (usP f).length = (nzs f).length := List.length_map ..
    rw [hlen] at hg
    have hhl := hh.len
    obtain ⟨e1, e2⟩ := Nrm.eqs (nz_nrm h) (pl_nrm (· + ·) b (bor (ps.map nz2) f)) fun k => by rw [nz_gt, hg, hnd_end hok hfl hfe]
    refine xs_shutG (M := []) (G' := GD C ps a b f none (some (Dc h)) none none none none none none) hB (fun σ H0 o l h1 h2 => sl_shutO (P := Dc h) l h1 5 rfl ⟨qh, rfl, ?_⟩) ?_
    · have h2 : o = .dK (ofD h) := h2
      rw [upd_same, h2]
    · exact xs_done hrt (xe_cmp (op_eq_dictA hr.units0) (rv_eqDA e1 e2 rfl) (XEm.dc (xem_prop (Cf := fun q => CDc q) cLC (hr.mono (by omega)) Z.ik.cl (xe_cmeth (P := Ld C (nz h)) cLF (hr.mono (by omega)) (xe_gl hL rfl) (xa_cons (v 5) xa_nil) h ⟨by show h.length < 64; omega, fun k hk => hkw k (hh.sub k hk)⟩ rfl fun _ _ p => p) (nz h) trivial rfl ld_isI)) (XEm.dc (xem_prop (Cf := fun q => CDc q) cLC (hr.mono (by omega)) Z.ik.cl (xe_op (op_own (C := C) hr FA bA mA Z.sf) (rv_own (P := Ld C (pl (· + ·) b (bor (ps.map nz2) f))) (b, bor (ps.map nz2) f) (by show b.length + (bor (ps.map nz2) f).length < 64; omega) rfl ld_isI ld_isI fun _ _ p => p) (v 2) (xe_ix ix_tup (fun _ _ => rfl) (rv_ixT (n := 0) (P := Ld C (bor (ps.map nz2) f)) rfl) (v 3) xe_int)) (pl (· + ·) b (bor (ps.map nz2) f)) trivial rfl ld_isI)) (nomark _))
end
end Y
/-! text ZQ -/
set_option Elab.async false
set_option linter.all false
set_option maxRecDepth 100000
namespace Y
open PySem PySem.Spec PyProof.Rows L2 Mt
theorem vals_at {kvs : List (Key × V)} {vs : List (Key × Value)} (rel : KV kvs vs) : ∀ {acc : List Value}, acc.length = vs.length → (∀ (j : Nat) (v : Value), acc[j]? = some v → ∃ k : Key, vs[j]? = some (k, v)) → Vals (kvs.map (·.2)) acc := by
  unfold KV at rel
  induction rel with
  | nil =>
    intro acc hl _
    have : acc = [] := List.length_eq_zero_iff.mp hl
    subst this
    exact .nil
  | @cons a b as bs hab hr ih =>
    intro acc hl h
    match acc, hl with
    | u :: us, hl =>
      obtain ⟨k, e⟩ := h 0 u rfl
      have e : b = (k, u) := Option.some.inj e
      subst e
      exact .cons hab.2 (ih (by simpa using hl) fun j v hj => h (j + 1) v hj)
section
variable {X : Cx} {o e : Expr} {td : TE} {apos cpos p pos : Pos}
/-- list(d.values()) -/
theorem pe_listVals (hc : X.calm = true) (hg : Gl X "list") (hm : X.mg "list" = none) (ho : PE X o td) (hbase : attributeBase o "values" X.env (eval o X.env) = eval o X.env := by rfl) (hline : (apos.endLine == cpos.line) = true := by rfl)
    (na : starEach [.Call (.Attribute o "values" apos) [] [] cpos] X.env = (false, eval (.Call (.Attribute o "values" apos) [] [] cpos) X.env) :: starEach [] X.env := by rfl) :
    PE X (.Call (.Name "list" p) [.Call (.Attribute o "values" apos) [] [] cpos] [] pos) (fun σ H Q => td σ H fun x H1 => ∃ d kvs, x = V.ref d ∧ Rd H1 d (.dK kvs) ∧ ∀ q, H1 q = none → Q (.ref q) (upd H1 q (.lst (kvs.map (·.2))))) := by
  refine ⟨fun pins s σ H Q I h => ?_⟩
  refine Call_ (ld_blt I hg hm boot_list (PyProof.Rows.callWith_type1 (args_cons ?_ na) na))
  refine wpAny_Call_method (T := "dict") (id := "dict.values") hbase rfl hline F.plainAttrs_dict F.slot_dict_values F.type_dict_values (thn (ho.run pins s σ H _ I h) fun u s1 ⟨x, H1, I1, rx, d, kvs, ex, hd, q⟩ => ?_)
  subst ex
  obtain rfl : u = Value.ref d := rx
  obtain ⟨z, lo, vs, rel, dd⟩ := dk_rd I1.hok hd
  obtain ⟨ep, hat⟩ := dd.dictAt
  refine ⟨dd.typeIs, dd.mapOf.noDict, ?_⟩
  have I2 : Inv X pins σ H1 { s1 with heap := s1.heap.push { cls := .type "dict_values", data := .fields #[.ref d] } } := I1.kept (t' := s1.toks) fun b ob q => Heap.get?_push_of_some _ q
  show wpAny _ _ (callWith cpos (.builtin "dict.values") [.ref d] [] []) _ X.xe s1
  refine method_meetsIn F.slot_dict_values F.entry_dict_values rfl (PySem.evalArgs_none ⟨rfl, dd.typeIs, F.args_dict_values_1 _, _, meets_dict_values (mixKind X.prog X.w) d lo, ⟨vs, dd⟩, args_nil ?_⟩)
  refine PySem.W.kdl_call (PySem.W.kdl_values (knd := mixKind X.prog X.w) (kvs := vs) (ep := ep) (r := s1.heap.objs.size) (d := d)) (I.ok.hd hc) ⟨⟨_, Heap.get?_push_size _ rfl, rfl, rfl⟩, hat.push _⟩ (by rw [← rel.length]; exact z) fun h' tk acc c' hk e' hi => ?_
  refine ⟨.ref _, upd H1 _ (.lst (kvs.map (·.2))), I2.laid (t' := tk) hk (Nat.le_refl _) (show ObjOk X.prog X.w _ _ _ (.lst (kvs.map (·.2))) from ⟨?_, acc.toList, c', vals_at rel ?_ ?_, ?_⟩), rfl, q _ (I2.hok.fresh (Nat.le_refl _))⟩
  · rw [List.length_map]
    exact z
  · rw [Array.length_toList]
    exact hi.1
  · exact fun j v e => hi.2 j v (by rw [← Array.getElem?_toList]; exact e)
  · rw [Array.toArray_toList]
    exact e'
end
theorem vls {H : Hp} : ∀ (d : DD), AllP H ((ofD d).map (·.2)) (d.map fun q => Vl (.int q.2))
  | [] => trivial
  | q :: d => ⟨rfl, vls d⟩
theorem xe_listVals {X : Cx} {L : List Addr} {o : Expr} {G : Gam} {M M1 : Ml} {apos cpos p pos : Pos} {d : DD} (ho : XE X L o G M (Dc d) M1) (hm : X.mg "list" = none) (hc : X.calm = true := by rfl) (hg : Gl X "list" := by rfl) (hbase : attributeBase o "values" X.env (eval o X.env) = eval o X.env := by rfl) (hline : (apos.endLine == cpos.line) = true := by rfl)
    (na : starEach [.Call (.Attribute o "values" apos) [] [] cpos] X.env = (false, eval (.Call (.Attribute o "values" apos) [] [] cpos) X.env) :: starEach [] X.env := by rfl) :
    XE X L (.Call (.Name "list" p) [.Call (.Attribute o "values" apos) [] [] cpos] [] pos) G M (Ls (d.map fun q => Vl (.int q.2))) M1 :=
  .of (pe_listVals hc hg hm pW hbase hline na) ho.ad fun σ H H0 s l m Q k => ho.then_ s l m fun x H1 H01 g1 s1 l1 m1 ⟨a, ev, ha⟩ => ⟨a, _, ev, s1.dk ha, fun q hq => by
    have g : Grow L [] H01 H1 (upd H01 q (.lst ((ofD d).map (·.2)))) (upd H1 q (.lst ((ofD d).map (·.2)))) := .alloc s1 hq
    exact k _ _ _ (g1.tr g.nil) (m1.grow0 g) ⟨q, _, rfl, upd_same, vls d⟩⟩
end Y
/-! text ZR -/
set_option Elab.async false
set_option linter.all false
set_option maxRecDepth 100000
namespace Y
open PySem PySem.Spec PyProof.Rows L2 Mt
theorem bindLIk (kV doc pm : Value) (an : Option Addr) (cdv ct a u : Value) : bindArgs (PySem.W.fnOf "__init__" "Load.__init__" (defArgs sLI) (defBody sLI) (defScope sLI) .none kV doc pm an cdv ct) ⟨[a], [("a", u)]⟩ =
    (do
      let t ← newTuple []
      let d ← alloc ({ cls := .type "dict", data := .dict #[] } : Obj)
      for (k, v) in [(("a" : Str), u)] do nsSet d k v
      pure [(("self" : Str), a), (("known" : Str), t), (("counts" : Str), Value.ref d)]) := by
  rfl
theorem update_last (h : Heap) (f : Obj → Obj) (o : Obj) : (h.push o).update h.objs.size f = h.push (f o) := by
  obtain ⟨objs, life⟩ := h
  simp only [Heap.update, Heap.push, Heap.mk.injEq, and_true]
  apply Array.ext_getElem?
  intro i
  simp only [Array.getElem?_modify, Array.getElem?_push]
  by_cases h2 : i = objs.size
  · subst h2
    simp
  · have : ¬ objs.size = i := fun e => h2 e.symm
    simp [this, h2]
/-- a keyword's entry in a new dict -/
theorem nsSet_new {M : Model} {A : Around} {E : Value → Shared → Prop} {s : Shared} {h : Heap} {nm : Str} {u : Value} {Q : Unit → Shared → Prop} (hs : s.heap = h.push { cls := .type "dict", data := .dict #[] })
    (hq : Q () { s with heap := h.push { cls := .type "dict", data := .dict #[⟨hashStr M.w nm, .str nm s.toks, u⟩] 1 }, toks := s.toks + 1 }) : wpAny M A (nsSet h.objs.size nm u) Q E s := by
  have D : s.heap.get? h.objs.size = some { cls := .type "dict", data := .dict #[] } := by
    rw [hs]
    exact Heap.get?_push_size _ rfl
  unfold nsSet
  refine wpAny_bind (wpAny_bind (wpAny_askSetting (wpAny_pure (wpAny_bind (wpAny_mkText (wpAny_bind (wpAny_loadPart D ?_)))))))
  have c : aRefKeyMayBeTheName nm #[] = false := by
    rw [aRefKeyMayBeTheName_at]
    simp
  dsimp only
  rw [c]
  refine wpAny_updatePart D ?_
  have e : s.heap.update h.objs.size (Obj.putName nm (hashStr M.w nm) (.str nm s.toks) u) = h.push { cls := .type "dict", data := .dict #[⟨hashStr M.w nm, .str nm s.toks, u⟩] 1 } := by
    rw [hs, update_last]
    congr 1
  have q2 : Q () { s with heap := s.heap.update h.objs.size (Obj.putName nm (hashStr M.w nm) (.str nm s.toks) u), toks := s.toks + 1 } := by
    rw [e]
    exact hq
  exact q2
/-- a def called by self and one keyword -/
def FnK (P : Program) (w : World) (K : PySem.W.Frag) (mg : Str → Option Value) (base : Heap) (k : Nat) (f : Addr) (nm : Str) (sp : V → V → Hp → VK → XK → Prop) : Prop :=
  ∀ (A : Around) (outer : List Env) (s : Shared) (H : Hp) (a u : Value) (v x : V) (Q : VK) (E : XK), Room k A → Env0 P w K mg base A outer s H → RelV v a → RelV x u → sp v x H Q E →
    codeAny (model P w) A (.call (.ref f) ⟨[a], [(nm, u)]⟩) (CR CX0 outer P w H s Q E) s
def spK1 (sp : Sp) (nm : Str) : V → V → Hp → VK → XK → Prop := fun v x H Q E => ∀ p d, H p = none → H d = none → d ≠ p → sp [v, V.ref p, V.ref d] (upd (upd H p (.tup [])) d (.dK [(.inr nm, x)])) Q E
section
variable {P : Program} {w : World} {K : PySem.W.Frag} {mg : Str → Option Value} {base : Heap}
theorem fnK_of {α : Type} {pre : α → Prop} {As : α → List VP} {Mi Mo : α → Ml} {R : α → VP} {x qual pv pd nm : Str} {st : Stmt} {f : Addr} {fd : FuncData} {N : List Str} {k : Nat} (F : Fun K x qual st f fd) (S : FnScope N ["self", pv, pd] (defScope st))
    (hb : ∀ (kV doc pm : Value) (an : Option Addr) (cdv ct a u : Value), bindArgs (PySem.W.fnOf x qual (defArgs st) (defBody st) (defScope st) .none kV doc pm an cdv ct) ⟨[a], [(nm, u)]⟩ = (do
      let t ← newTuple []
      let d ← alloc ({ cls := .type "dict", data := .dict #[] } : Obj)
      for (k, v) in [(nm, u)] do nsSet d k v
      pure [(("self" : Str), a), (pv, t), (pd, Value.ref d)]))
    (h : ∀ a, pre a → ∀ (cdv : Value) (A : Around) (outer : List Env) (s : Shared) (H : Hp) (E : XK) (B : Bs) (D : Ends), B.A = ads (Mi a) → Room k (dA qual st f cdv A s) → (∀ v H, rtA [] B (R a) (Mo a) v H → D.rt v H) → (∀ σ H, D.rt .non H → D.nx σ H) →
      XS (dX P w K mg base N qual st f cdv A outer s H E) [] (defBody st) B (startG N (As a)) (Mi a) D) : FnK P w K mg base (k + 1) f nm (spK1 (spG pre As Mi R Mo) nm) := by
  obtain ⟨oc, od, kV, doc, pm, an, cdv, ct, osl, rfl, lk, hcd⟩ := F.ex
  intro A outer s H a u v y Q E hr e0 ra ry hsp
  have hn : H s.heap.objs.size = none := e0.hok.fresh (Nat.le_refl _)
  refine StX.run_bnd (CX := CX0) lk hcd S hr e0 (G := fun xs H2 => ∃ p d, H p = none ∧ H d = none ∧ d ≠ p ∧ xs = [v, V.ref p, V.ref d] ∧ H2 = upd (upd H p (.tup [])) d (.dK [(.inr nm, y)])) (fun A' Ex Q' hq => ?_) fun s2 H2 xs ⟨p, d, hp, hd, hne, ex, eH⟩ hr' => ?_
  · rw [hb kV doc pm an cdv ct a u]
    refine wpAny_bind (wpAny_newTuple (wpAny_bind (wpAny_alloc ?_)) (Nat.zero_le _))
    rw [List.forIn_cons]
    refine wpAny_bind (wpAny_bind (wpAny_bind (nsSet_new rfl (wpAny_pure ?_))))
    dsimp only
    rw [List.forIn_nil]
    refine wpAny_pure (wpAny_pure ?_)
    have new : ObjOk P w (upd H s.heap.objs.size (.tup [])) (s.heap.push ({ cls := .type "tuple", data := .seq #[] } : Obj)) s.heap.objs.size (.tup []) := ⟨Nat.zero_le _, [], .nil, ⟨_, Heap.get?_push_size _ rfl, rfl, _, rfl⟩⟩
    have e1 := StX.env0_laid e0 new
    have un1 := StX.un_laid (fs := frs outer) (s := s) (o := ({ cls := .type "tuple", data := .seq #[] } : Obj)) (u := .tup []) hn
    have hn2 := e1.hok.fresh (Nat.le_refl _)
    have hbig := StX.env0_big e1
    have hkey : ∀ t, keyIs (.inr nm) (.str nm t) = true := fun t => by simp [keyIs, Value.isStrOf]
    have new2 : ∀ t, ObjOk P w (upd (upd H s.heap.objs.size (.tup [])) (s.heap.push ({ cls := .type "tuple", data := .seq #[] } : Obj)).objs.size (.dK [(.inr nm, y)])) ((s.heap.push ({ cls := .type "tuple", data := .seq #[] } : Obj)).push ({ cls := .type "dict", data := .dict #[⟨hashStr w nm, .str nm t, u⟩] 1 } : Obj)) (s.heap.push ({ cls := .type "tuple", data := .seq #[] } : Obj)).objs.size (.dK [(.inr nm, y)]) := fun t => by
      refine ⟨by rw [sizeLine_eq]; exact (by decide : 1 ≤ 16777216), beq_eq_false_iff_ne.mpr (Ne.symm (Nat.ne_of_lt hbig)), [(.inr nm, u)], .cons ⟨rfl, ry⟩ .nil, _, #[⟨hashStr w nm, .str nm t, u⟩], 1, Heap.get?_push_size _ rfl, ⟨rfl, rfl, rfl⟩, rfl, fun e he => ?_, .cons ?_ rfl .nil, by simp⟩
      · have he : e = ⟨hashStr w nm, .str nm t, u⟩ := by simpa using he
        subst he
        exact ⟨.inr nm, hkey t, rfl⟩
      · exact hkey t
    have e2 := StX.env0_laid e1 (new2 s.toks)
    have un2 := un1.trans (StX.un_laid (fs := frs outer) (s := { s with heap := s.heap.push ({ cls := .type "tuple", data := .seq #[] } : Obj) }) (o := ({ cls := .type "dict", data := .dict #[⟨hashStr w nm, .str nm s.toks, u⟩] 1 } : Obj)) (u := .dK [(.inr nm, y)]) hn2)
    have sz : (s.heap.push ({ cls := .type "tuple", data := .seq #[] } : Obj)).objs.size = s.heap.objs.size + 1 := Heap.size_push _ _
    have ne : (s.heap.push ({ cls := .type "tuple", data := .seq #[] } : Obj)).objs.size ≠ s.heap.objs.size := by
      rw [sz]
      exact Nat.succ_ne_self _
    have hd : H (s.heap.push ({ cls := .type "tuple", data := .seq #[] } : Obj)).objs.size = none := e0.hok.fresh (by rw [sz]; exact Nat.le_succ _)
    exact hq _ _ [v, V.ref s.heap.objs.size, V.ref (s.heap.push ({ cls := .type "tuple", data := .seq #[] } : Obj)).objs.size] [a, Value.ref s.heap.objs.size, Value.ref (s.heap.push ({ cls := .type "tuple", data := .seq #[] } : Obj)).objs.size]
      ⟨e2.frames, e2.mod, e2.bs, e2.bsz, e2.funs, e2.frf, e2.hok, e2.bare⟩ un2 rfl (fun e s' z => z) (.cons ra (.cons rfl (.cons rfl .nil))) rfl ⟨_, _, hn, hd, ne, rfl, rfl⟩
  · subst ex eH
    obtain ⟨a', H0, pa, sb, hv, mo, k⟩ := hsp p d hp hd hne
    have hb := h a' pa cdv A outer s2 (upd (upd H p (.tup [])) d (.dK [(.inr nm, y)])) E ⟨H0, upd (upd H p (.tup [])) d (.dK [(.inr nm, y)]), ads (Mi a')⟩ { nx := fun _ H' => Q .non H', rt := Q } rfl hr' (fun v H' ⟨H0', g, p, m⟩ => k v H' H0' g m p) (fun _ _ q => q)
    exact ⟨_, PSs.nox pWs, hb.run _ _ ⟨H0, .refl sb, start_SL hv, mo, fun b hb => .inl hb⟩⟩
end
structure ICalK (P : Program) (w : World) (K : PySem.W.Frag) (mg : Str → Option Value) (base : Heap) (k : Nat) (x : Str) (C : Addr) (nm : Str) (sp : V → V → Hp → VK → XK → Prop) : Prop where
  ex : ∃ f, FnK P w K mg base k f nm sp ∧ Mk K C f ∧ mg x = some (.ref C)
section
variable {X : Cx} {k : Nat} {f C : Addr} {nm x : Str} {sp : V → V → Hp → VK → XK → Prop} {e : Expr} {te : TE} {p pos kpos : Pos} {G : Gam} {M : Ml}
/-- C(nm = e) -/
theorem pe_makeA (Mk' : Mk X.K C f) (F : FnK X.prog X.w X.K X.mg X.base k f nm sp) (hr : Room (k + 1) X.A) (hg : Gl X x) (hm : X.mg x = some (.ref C)) (he : PE X e te) (hdb : (x == ("__debug__" : Str)) = false)
    (hall : (backToKw pos (keywordEach [⟨some nm, e, kpos⟩] X.env)).all (·.1.isSome) = true := by rfl) (hks : (backToKw pos (keywordEach [⟨some nm, e, kpos⟩] X.env)).filterMap (·.1) = [nm] := by rfl)
    (hpl : ((backTo pos (starEach [] X.env)).any (·.1) || (backToKw pos (keywordEach [⟨some nm, e, kpos⟩] X.env)).any (·.1.isNone)) = false := by rfl) :
    PE X (.Call (.Name x p) [] [⟨some nm, e, kpos⟩] pos) (fun σ H Q => te σ H fun y H1 => ∀ x dx, H1 x = none → H1 dx = none → dx ≠ x → sp (.ref x) y (upd (upd H1 dx (.own x)) x (.ins C dx [])) (fun v H2 => v = .non ∧ Q (.ref x) H2) E0) := by
  refine ⟨fun pins s σ H Q I h => ?_⟩
  refine wpAny_Call_Name_kw (ld_glob I hg hm ?_ hdb)
  refine PySem.W.callWith_KW0 (h₀ := X.base) I.ok.mod.kin Mk'.kp hall ?_ hpl
  refine thn ((pk_cons he pk_nil).run pos pins s σ H (fun zs H1 => ∃ y, zs = [y] ∧ ∀ x dx, H1 x = none → H1 dx = none → dx ≠ x → sp (.ref x) y (upd (upd H1 dx (.own x)) x (.ins C dx [])) (fun v H2 => v = .non ∧ Q (.ref x) H2) E0) I ?_) fun ws s2 ⟨zs, H1, I1, rz, y, ez, q2⟩ => ⟨I1.kIn, ?_⟩
  · have hw : te σ H fun y H1 => (fun zs H1 => ∃ y, zs = [y] ∧ ∀ x dx, H1 x = none → H1 dx = none → dx ≠ x → sp (.ref x) y (upd (upd H1 dx (.own x)) x (.ins C dx [])) (fun v H2 => v = .non ∧ Q (.ref x) H2) E0) [y] H1 := ?_
    · exact hw
    · have e1 : (fun (y : V) (H1 : Hp) => (fun zs H1 => ∃ y, zs = [y] ∧ ∀ x dx, H1 x = none → H1 dx = none → dx ≠ x → sp (.ref x) y (upd (upd H1 dx (.own x)) x (.ins C dx [])) (fun v H2 => v = .non ∧ Q (.ref x) H2) E0) [y] H1) = fun y H1 => ∀ x dx, H1 x = none → H1 dx = none → dx ≠ x → sp (.ref x) y (upd (upd H1 dx (.own x)) x (.ins C dx [])) (fun v H2 => v = .non ∧ Q (.ref x) H2) E0 := by
        funext y H1
        refine propext ⟨fun ⟨y', ey, z⟩ => ?_, fun z => ⟨y, rfl, z⟩⟩
        have ey : y = y' := by simpa using ey
        rw [ey]
        exact z
      rw [e1]
      exact h
  · subst ez
    cases rz with
    | @cons _ u _ _ ru rr =>
      cases rr
      rw [hks]
      have hq := q2 (s2.heap.objs.size + 1) s2.heap.objs.size (I1.hok.fresh (Nat.le_succ _)) (I1.hok.fresh (Nat.le_refl _)) (Nat.ne_of_lt (Nat.lt_succ_self _))
      have I2 := Inv.made (C := C) I1
      refine wpAny_call (make_map (f := f) I1.kIn Mk'.makes Mk'.init (beq_iff_eq.mp Mk'.fn) (codeAny_mono (F _ X.stack _ _ (Value.ref (s2.heap.objs.size + 1)) u (V.ref (s2.heap.objs.size + 1)) y _ E0 (hr.make C [] [(nm, u)]) (I2.env0.make C [] [(nm, u)]) rfl ru hq) fun r s' hq' => ?_))
      cases r with
      | error e => exact pass0 pins σ _ _ e s' I2 hq'
      | ok fl =>
        cases fl with
        | ret u =>
          obtain ⟨v, H', I3, rv, ev, q3⟩ := I2.after hq'
          subst ev
          exact ⟨rv, ⟨V.ref (s2.heap.objs.size + 1), H', I3, rfl, q3⟩⟩
        | next => exact False.elim hq'
        | brk => exact False.elim hq'
        | cont => exact False.elim hq'
end
theorem sp_makeA {α : Type} {C : Addr} {pre : α → Prop} {As : α → List VP} {Fs : α → Fps} {nm : Str} {i : Int} (y : α) (hpre : pre y) (hy : As y = [Tp [], Dc [(nm, i)]]) {H1 H01 : Hp} (s1 : Sub [] H01 H1) {Q : VK} (k : ∀ v H' H0', Grow [] [] H01 H1 H0' H' → (Ins C (Fs y)).p v H0' → Q v H') :
    ∀ x dx, H1 x = none → H1 dx = none → dx ≠ x → spK1 (spI C pre As Fs) nm (V.ref x) (.int i) (upd (upd H1 dx (.own x)) x (.ins C dx [])) (fun v H2 => v = .non ∧ Q (.ref x) H2) E0 := by
  intro x dx hx hd ne
  obtain ⟨sA, mA, smA⟩ := made_sub (C := C) s1 hx hd ne
  intro p d hp hd2 dp
  have g : Grow [] [] _ _ (upd (upd H01 dx (.own x)) p (.tup [])) (upd (upd (upd H1 dx (.own x)) x (.ins C dx [])) p (.tup [])) := .alloc sA hp
  have hd3 : upd (upd (upd H1 dx (.own x)) x (.ins C dx [])) p (.tup []) d = none := by
    rw [upd_ne dp]
    exact hd2
  have gd : Grow [] [] _ _ (upd (upd (upd H01 dx (.own x)) p (.tup [])) d (.dK [(.inr nm, .int i)])) (upd (upd (upd (upd H1 dx (.own x)) x (.ins C dx [])) p (.tup [])) d (.dK [(.inr nm, .int i)])) := .alloc g.sub hd3
  have px : p ≠ x := fun e => by
    rw [e, upd_same] at hp
    cases hp
  have pdx : p ≠ dx := fun e => by
    rw [e, upd_ne ne, upd_same] at hp
    cases hp
  have hp1 : H1 p = none := by
    rw [upd_ne px, upd_ne pdx] at hp
    exact hp
  have dx' : d ≠ x := fun e => by
    rw [e, upd_same] at hd2
    cases hd2
  have ddx : d ≠ dx := fun e => by
    rw [e, upd_ne ne, upd_same] at hd2
    cases hd2
  have hd1 : H1 d = none := by
    rw [upd_ne dx', upd_ne ddx] at hd2
    exact hd2
  refine ⟨(y, x, dx), _, hpre, gd.sub, ⟨rfl, ?_⟩, (mA.grow0 g).grow0 gd, fun v H' H0' gg mm pv => ⟨pv, ?_⟩⟩
  · rw [hy]
    exact ⟨⟨p, [], rfl, gd.pure _ _ upd_same, trivial⟩, ⟨d, rfl, upd_same⟩, trivial⟩
  · have nw : ∀ b, upd (upd (upd H01 dx (.own x)) p (.tup [])) d (.dK [(.inr nm, .int i)]) b ≠ none → H01 b ≠ none ∨ H1 b = none := fun b nb => by
      by_cases z0 : b = d
      · rw [z0]
        exact .inr hd1
      · rw [upd_ne z0] at nb
        by_cases z : b = p
        · rw [z]
          exact .inr hp1
        · rw [upd_ne z] at nb
          by_cases z2 : b = dx
          · rw [z2]
            exact .inr hd
          · rw [upd_ne z2] at nb
            exact .inl nb
    have kp : ∀ b u, H1 b = some u → upd (upd (upd (upd H1 dx (.own x)) x (.ins C dx [])) p (.tup [])) d (.dK [(.inr nm, .int i)]) b = some u := fun b u e => by
      rw [upd_ne (fun z => by rw [z, hd1] at e; cases e), upd_ne (fun z => by rw [z, hp1] at e; cases e), upd_ne (fun z => by rw [z, hx] at e; cases e), upd_ne (fun z => by rw [z, hd] at e; cases e)]
      exact e
    have hx0 : upd (upd (upd H01 dx (.own x)) p (.tup [])) d (.dK [(.inr nm, .int i)]) x = none := by
      rw [upd_ne (Ne.symm dx'), upd_ne (Ne.symm px), upd_ne (Ne.symm ne)]
      exact s1.no hx
    obtain ⟨H0'', g2, hi⟩ := made_end (fps := Fs y) s1 hx hd ne ((smA.trans g.pure).trans gd.pure) nw kp gg mm hx0
    exact k _ _ _ g2 hi
section
variable {P : Program} {w : World} {K : PySem.W.Frag} {mg : Str → Option Value} {base : Heap} {C : Addr}
abbrev spLIa (C : Addr) : V → V → Hp → VK → XK → Prop := spK1 (spI (α := DD) C (fun e => e.length < 64 ∧ ∀ k ∈ ks e, Wd k) (fun e => [Tp [], Dc e]) (fun e => LF (nz e))) "a"
theorem c_LIa (D : IDfn K mg "Load" C "Load.__init__" sLI) (T : Bt mg) (Z : LdF K C) (cCH : Cal P w K mg base 2 "checked" ["counts"] spCH) : ICalK P w K mg base 3 "Load" C "a" (spLIa C) := by
  obtain ⟨f, fd, F, mk, hm⟩ := D.ex
  refine ⟨f, fnK_of F scLI bindLIk ?_, mk, hm⟩
  rintro ⟨e, x, dx⟩ ⟨h1, h2⟩ cdv A outer s H E B D hB hr hrt hnx
  have h1 : e.length < 64 := h1
  have h2 : ∀ k ∈ ks e, Wd k := h2
  refine xs_fldM (P := Dc (nz e)) ?_ (v 0) Z.ik.cl Z.na (by simp) (by simp) (xs_nil fun σ H h => end_non hrt hnx h)
  refine xe_if (xt_cmp (op_eqE hr.units0) rv_eqET (v 1) (xe_tup xa_nil (Nat.zero_le _)) (nomark _)) (fun _ => ?_) (fun ht => by cases ht) rfl
  exact xpw cCH hr e (xa_cons (v 2) xa_nil) ⟨h1, h2⟩ fun _ _ p => p
end
/-- Load(a = e) -/
theorem xe_makeA {X : Cx} {k : Nat} {C : Addr} {e : Expr} {p pos kpos : Pos} {G : Gam} {M M1 : Ml} {i : Int} (N : ICalK X.prog X.w X.K X.mg X.base k "Load" C "a" (spLIa C)) (hr : Room (k + 1) X.A) (he : XE X [] e G M (Vl (.int i)) M1) (hg : Gl X "Load" := by rfl)
    (hall : (backToKw pos (keywordEach [⟨some "a", e, kpos⟩] X.env)).all (·.1.isSome) = true := by rfl) (hks : (backToKw pos (keywordEach [⟨some "a", e, kpos⟩] X.env)).filterMap (·.1) = [("a" : Str)] := by rfl)
    (hpl : ((backTo pos (starEach [] X.env)).any (·.1) || (backToKw pos (keywordEach [⟨some "a", e, kpos⟩] X.env)).any (·.1.isNone)) = false := by rfl) : XE X [] (.Call (.Name "Load" p) [] [⟨some "a", e, kpos⟩] pos) G M (Ld C (nz [("a", i)])) M1 := by
  obtain ⟨f, F, mk, hm⟩ := N.ex
  exact .of (pe_makeA mk F hr hg hm pW (by decide) hall hks hpl) he.ad fun σ H H0 s l m Q k => he.then_ s l m fun v H1 H01 g1 s1 l1 m1 ev => by
    have ev : v = .int i := ev
    subst ev
    refine sp_makeA (i := i) ([("a", i)] : DD) ⟨(by decide : 1 < 64), fun k hk => ?_⟩ rfl s1 fun v H' H0' g2 p2 => k v H' H0' (g1.tr g2.nil) (m1.grow0 g2) p2
    have hk : k = "a" := by simpa [ks] using hk
    rw [hk]
    exact ⟨by decide, by decide, by decide⟩
end Y
/-! text ZS -/
set_option Elab.async false
set_option linter.all false
set_option maxRecDepth 100000
namespace Y
open PySem PySem.Spec PyProof.Rows L2 Mt
/-- e gives a value of P0, or a value of R b q beside a new cell q of C b -/
structure XEY {β : Type} (X : Cx) (e : Expr) (G : Gam) (M : Ml) (P0 : VP) (ok : β → Prop) (R : β → Addr → VP) (C : β → CP) (M' : Ml) : Prop where
  ad : ads M' = ads M
  run : ∀ σ H H0, Sub [] H0 H → SL G σ H0 → MO M H0 H → ∀ Q : VK, (∀ v H' H0', Grow [] (ads M) H0 H H0' H' → MO M' H0' H' → P0.p v H0' → Q v H') →
    (∀ b v q H' H0', ok b → Grow [] (ads M) H0 H H0' H' → MO (M' ++ [(q, C b)]) H0' H' → H q = none → (R b q).p v H0' → Q v H') → tW X e σ H Q
section
variable {X : Cx} {e o : Expr} {es : List Expr} {G : Gam} {M M1 M' : Ml} {P0 P1 : VP} {pos apos pos' : Pos} {C q : Addr} {i k : Nat} {B : Bs} {D : Ends} {x m : Str} {rest : List Stmt} {ps : List Str} {Ps : List VP}
theorem cell_laidA {H0 H H0' H' : Hp} {M : Ml} {C : CP} {q : Addr} {o : HO} (m : MO M H0' H') (h : ∀ a ∈ ads M, a ≠ q) (h1 : H0' q = none) (h2 : H' q = some o) (h3 : C.p o H0') : MO (M ++ [(q, C)]) H0' H' := by
  refine ⟨?_, fun c hc => ?_⟩
  · rw [ads_app]
    refine List.nodup_append.mpr ⟨m.1, by simp [ads], fun a ha b hb e => ?_⟩
    have hb : b = q := by simpa [ads] using hb
    exact h a ha (e.trans hb)
  · rcases List.mem_append.mp hc with z | z
    · exact m.2 c z
    · have z := List.mem_singleton.mp z
      subst z
      exact ⟨h1, o, h2, h3⟩
theorem xey_mt {α β : Type} {pre : α → Prop} {As : α → List VP} {R0 : α → VP} {ok : α → β → Prop} {R : α → β → Addr → VP} {Cf : α → β → CP} {pl : Sem Bool} (N : MCal X.prog X.w X.K X.mg X.base k C m ps (spY pre As R0 ok R Cf)) (hr : Room k X.A) (hc : Cls X.K C) (ho : XE X [] o G M P1 M) (h1 : InsP C m P1)
    (y : α) (ha : XA X [] (e :: es) G M Ps M) (hy : As y = P1 :: Ps) (hpre : pre y) (hst : starEach (e :: es) X.env = (false, eval e X.env) :: starEach es X.env := by rfl) (hpl : (backTo pos (starEach es X.env)).any (·.1) = false := by rfl)
    (ht : eval (.Call (.Attribute o m apos) (e :: es) [] pos) X.env = (do let ov ← eval o X.env; standAt apos.atName; let (f, first) ← holding [ov] (getMethod ov m pl); callWith pos f first (backTo pos (starEach (e :: es) X.env)) (backToKw pos (keywordEach [] X.env))) := by rfl) :
    XEY X (.Call (.Attribute o m apos) (e :: es) [] pos) G M (R0 y) (ok y) (R y) (Cf y) M := by
  obtain ⟨f, fd, F, hm, hbd, hf⟩ := N.ex
  refine ⟨rfl, fun σ H H0 s l mm Q k1 k2 pins sh I => (pe_meth (pW (e := o)) hc hm F hr hbd .nil pass0 (pWa (es := e :: es)) hst hpl ht).run pins sh σ H Q I ?_⟩
  refine ho.then_ s l mm fun v H1 H01 g1 s1 l1 m1 p1 => ?_
  obtain ⟨qa, dx, fs, ev, hq, hf⟩ := h1 v H01 p1
  refine ⟨qa, dx, fs, ev, s1.ins hq, hf, ?_⟩
  refine ha.then_ s1 l1 m1 fun vs H2 H02 g2 s2 l2 m2 p2 => ?_
  rw [List.append_nil]
  have gg : Grow [] (ads M) H0 H H02 H2 := g1.tr g2
  refine ⟨y, H02, hpre, s2, by rw [hy]; exact ⟨P1.mono _ _ _ g2.pure p1, p2⟩, fun v H' H0' g p => k1 v H' H0' (gg.tr g.nil) (m2.grow0 g) p, fun b v q o H' H0' hb g n1 n2 n3 n4 p => ?_⟩
  have hqn : H q = none := by
    cases e : H q with
    | none => rfl
    | some u => exact absurd n2 (gg.live q (by rw [e]; simp))
  refine k2 b v q H' H0' hb (gg.tr g.nil) (cell_laidA (H0 := H0) (H := H) (m2.grow0 g) (fun a ha e => ?_) n1 n3 n4) hqn p
  subst e
  exact (m2.at_ ha).2 n2
/-- x = e -/
theorem xs_setY {β : Type} {ok : β → Prop} {R : β → Addr → VP} {Cf : β → CP} (he : XEY X e G M P0 ok R Cf M1) (hN : X.N.Nodup) (hi : X.N[i]? = some x) (hx : Loc X.env.scope x) (h0 : XS X [] rest B (G.set i (some P0)) M1 D) (h1 : ∀ b q, ok b → XS X [] rest B (G.set i (some (R b q))) (M1 ++ [(q, Cf b)]) D)
    (hs : swapsWith e (some (.Name x pos')) pos.line X.env = pure false := by rfl) (hf : X.fn x = true ∨ X.env.scope.names.lookup x = some .local := by first | exact .inl rfl | exact .inr rfl | assumption) : XS X [] (.Assign [.Name x pos'] e pos :: rest) B G M D :=
  xs_of (ps_set hN hi hx pW hs hf) fun σ H ⟨H0, g, l, m, f⟩ => he.run σ H H0 g.sub l m _ (fun v H1 H01 g1 m1 p => h0.run _ H1 ⟨H01, g.trans g1 f, (l.mono g1.pure).set p, m1, by rw [he.ad]; exact f⟩) fun b v q H1 H01 hb g1 m1 hq p => by
    refine (h1 b q hb).run _ H1 ⟨H01, g.trans g1 f, (l.mono g1.pure).set p, m1, fun c hc => ?_⟩
    rw [ads_app, he.ad] at hc
    rcases List.mem_append.mp hc with z | z
    · exact f c z
    · have z : c = q := by simpa [ads] using z
      subst z
      cases e : B.h c with
      | none => exact .inr rfl
      | some o => exact absurd hq (g.live c (by rw [e]; simp))
/-- the new cell stays: a plain value -/
theorem XEY.xe {β : Type} {ok : β → Prop} {R : β → Addr → VP} {Cf : β → CP} {P' : β → VP} (h : XEY X e G M P0 ok R Cf M') (hC : ∀ b v q o H0, ok b → (R b q).p v H0 → H0 q = none → (Cf b).p o H0 → (P' b).p v (upd H0 q o)) : XE X [] e G M (OrP P0 (ExP ok P')) M' :=
  ⟨h.ad, fun σ H H0 s l m Q k => h.run σ H H0 s l m Q (fun v H' H0' g m' p => k v H' H0' g m' (.inl p)) fun b v q H' H0' hb g m' hq p => by
    have n1 := (m'.2 (q, Cf b) (List.mem_append_right _ (.head _))).1
    obtain ⟨o, ho, hH, g2, m2, sm⟩ := m'.shut g hq
    exact k v H' _ g2 m2 (.inr ⟨b, hb, hC b v q o H0' hb p n1 ho⟩)⟩
/-- a call that gives a new cell -/
theorem xem_call {α : Type} {pre : α → Prop} {As : α → List VP} {Cf : α → CP} {p : Pos} (N : Cal X.prog X.w X.K X.mg X.base k x ps (spC pre As Cf)) (hr : Room k X.A) (y : α) (ha : XA X [] (e :: es) G M (As y) M1) (hpre : pre y) (hg : Gl X x := by rfl)
    (hdb : (x == ("__debug__" : Str)) = false := by decide) (he : starEach (e :: es) X.env = (false, eval e X.env) :: starEach es X.env := by rfl) (hpl : (backTo pos (starEach es X.env)).any (·.1) = false := by rfl) : XEm X [] (.Call (.Name x p) (e :: es) [] pos) G M (Cf y) M1 := by
  obtain ⟨f, fd, F, g, kp, bn⟩ := N.ex
  refine ⟨ha.ad, fun σ H H0 s l m Q k pins sh I => (pe_call F hr hg g kp bn .nil pass0 (pWa (es := e :: es)) hdb he hpl).run pins sh σ H Q I ?_⟩
  refine ha.then_ s l m fun vs H1 H01 g1 s1 l1 m1 p1 => ?_
  rw [List.append_nil]
  refine ⟨y, H01, hpre, s1, p1, fun v H' H0' g p => p.elim, fun v q o H' H0' g n1 n2 n3 n4 p => ?_⟩
  have p : v = .ref q := p
  subst p
  have hqn : H q = none := by
    cases e : H q with
    | none => rfl
    | some u => exact absurd n2 (g1.live q (by rw [e]; simp))
  refine k q H' H0' (g1.tr g.nil) (cell_laidA (H0 := H0) (H := H) (m1.grow0 g) (fun a ha e => ?_) n1 n3 n4) hqn
  subst e
  exact (m1.at_ ha).2 n2
end
end Y
/-! text ZT -/
set_option Elab.async false
set_option linter.all false
set_option maxRecDepth 100000
namespace Y
open PySem PySem.Spec PyProof.Rows L2 Mt
theorem cmb_nz (k : Str) : ∀ (f : List Int) (ps : List (DD × DD)), cmbK f (ps.map nz2) k = cmbK f ps k
  | [], [] => rfl
  | [], _ :: _ => rfl
  | _ :: _, [] => rfl
  | c :: f, q :: ps => by
    show c * (gt (nz q.1) k - gt (nz q.2) k) + cmbK f (ps.map nz2) k = c * (gt q.1 k - gt q.2 k) + cmbK f ps k
    rw [nz_gt, nz_gt, cmb_nz k f ps]
theorem eqk_nz {ps : List (DD × DD)} {a b : DD} : Eqk (ps.map nz2) a b ↔ Eqk ps a b := by
  constructor
  · rintro ⟨f, h⟩
    exact ⟨f, fun k => by rw [h k, cmb_nz]⟩
  · rintro ⟨f, h⟩
    exact ⟨f, fun k => by rw [h k, cmb_nz]⟩
theorem Dn.wide {N : Nat} {kk kk' : List Str} {d : DD} (h : Dn N kk d) (hs : ∀ k ∈ kk, k ∈ kk') : Dn N kk' d := by
  refine ⟨h.nd, fun k hk => hs k (h.sub k hk), h.bd, ?_⟩
  have := nodup_le h.nd (fun k hk => hs k (h.sub k hk))
  rw [ks_len] at this
  exact this
theorem nz_sd {ws : List Str} {d : DD} (h : Dn 1000000 ws d) (hl : ws.length ≤ 6) : Sd (nz d) := by
  have h1 := nz_len d
  have h2 := h.len
  refine ⟨by omega, (ng_empty (nz_nrm d)).mpr fun k => by rw [nz_gt]; exact (h.gt k).1, fun q hq => ?_, nz_nrm d⟩
  have e : gt (nz d) q.1 = q.2 := by
    unfold gt
    rw [gv_of_mem (nz_nrm d).nd hq]
    rfl
  rw [nz_gt] at e
  have := (h.gt q.1).2
  omega
theorem flat_len {α : Type} {l : List α} {f : α → List Str} {n : Nat} (h : ∀ x ∈ l, (f x).length ≤ n) : (l.flatMap f).length ≤ n * l.length := by
  rw [List.length_flatMap]
  have := sum_le (l := l.map fun x => (f x).length) (n := n) (fun y hy => by
    obtain ⟨x, hx, e⟩ := List.mem_map.mp hy
    rw [← e]
    exact h x hx)
  rw [List.length_map] at this
  exact this
theorem okP_of {r : List Str × List (DD × DD)} (h : OkRu r) : OkP (r.2.map nz2) := by
  have hn := h.n
  have h5 := h.l5
  have side : ∀ d ∈ (r.2.map nz2).flatMap two, ∃ d0, Dn 1000000 r.1 d0 ∧ d = nz d0 := fun d hd => by
    obtain ⟨q, hq, hdq⟩ := List.mem_flatMap.mp hd
    obtain ⟨u, hu, rfl⟩ := List.mem_map.mp hq
    obtain ⟨a1, a2⟩ := h.pr u hu
    have hdq : d ∈ [nz u.1, nz u.2] := hdq
    rcases List.mem_cons.mp hdq with e | hdq
    · exact ⟨_, a1, e⟩
    · exact ⟨_, a2, List.mem_singleton.mp hdq⟩
  have slen : ∀ d ∈ (r.2.map nz2).flatMap two, (ks d).length ≤ 5 := fun d hd => by
    obtain ⟨d0, h0, rfl⟩ := side d hd
    have h1 := nz_len d0
    have h2 := h0.len
    rw [ks_len]
    omega
  refine ⟨by rw [List.length_map]; omega, fun q hq => ?_, ?_, ?_, by rw [List.length_map]; exact hn, fun q hq => ?_⟩
  · obtain ⟨u, hu, rfl⟩ := List.mem_map.mp hq
    obtain ⟨a1, a2⟩ := h.pr u hu
    exact ⟨nz_sd a1 (by omega), nz_sd a2 (by omega)⟩
  · have : (kof ((r.2.map nz2).flatMap two)).length ≤ r.1.length := nodup_le (srt_nodup _) fun k hk => by
      obtain ⟨d, hd, hkd⟩ := List.mem_flatMap.mp ((srt_mem _ _).mp hk)
      obtain ⟨d0, h0, rfl⟩ := side d hd
      exact h0.sub k (nz_ks _ _ hkd)
    omega
  · have h1 := flat_len slen
    have h2 := two_len (r.2.map nz2)
    rw [List.length_map] at h2
    rw [h2] at h1
    omega
  · obtain ⟨u, hu, rfl⟩ := List.mem_map.mp hq
    obtain ⟨a1, a2⟩ := h.pr u hu
    have h1 := nz_len u.1
    have h2 := nz_len u.2
    have h3 := a1.len
    have h4 := a2.len
    exact ⟨by show (nz u.1).length ≤ 6; omega, by show (nz u.2).length ≤ 6; omega⟩
/-- what the law has drawn for one pair of loads -/
structure LS (ws : List Str) (ps : List (DD × DD)) (e : List Str) (d md : DD) (low : Int) : Prop where
  ru : OkRu (ws, ps)
  ex : okWs 1 e
  gi : Dn 2000000 (ws ++ e) d
  mo : Mv bigM (ws ++ e) md
  l0 : low ≤ 0
  l1 : -(bigM : Int) ≤ low
  lm : ∀ k, low ≤ gt md k
abbrev evr (d md : DD) : List Str := srt (ks d ++ ks md)
abbrev lod (d md : DD) (low : Int) (x : DD) : DD := nz (mk (fun k : Str => k) (fun k => gt x k - low) (evr d md))
theorem lod_gt {d md x : DD} {low : Int} (k : Str) : gt (lod d md low x) k = if k ∈ evr d md then gt x k - low else 0 := by
  rw [nz_gt]
  have h2 := mk_gv (fun k : Str => k) (fun k => gt x k - low) (fun k => gt x k - low) (evr d md) (fun _ _ => rfl) k
  rw [List.map_id'] at h2
  show (gv _ k).getD 0 = _
  rw [h2]
  split <;> rfl
section
variable {ws : List Str} {ps : List (DD × DD)} {e : List Str} {d md : DD} {low : Int}
theorem LS.kl (h : LS ws ps e d md low) : (ws ++ e).length ≤ 6 := by
  have h1 : ws.length ≤ 5 := h.ru.l5
  have h2 := h.ex.1
  rw [List.length_append]
  omega
theorem LS.kw (h : LS ws ps e d md low) : ∀ k ∈ ws ++ e, Wd k := fun k hk => by
  rcases List.mem_append.mp hk with hk | hk
  · exact h.ru.w k hk
  · exact h.ex.2 k hk
theorem LS.evs (h : LS ws ps e d md low) : ∀ k ∈ evr d md, k ∈ ws ++ e := fun k hk => by
  rcases List.mem_append.mp ((srt_mem _ _).mp hk) with hk | hk
  · exact h.gi.sub k hk
  · exact h.mo.sub k hk
theorem LS.evl (h : LS ws ps e d md low) : (evr d md).length ≤ 6 := Nat.le_trans (nodup_le (srt_nodup _) h.evs) h.kl
theorem lod_ks {x : DD} : ∀ k ∈ ks (lod d md low x), k ∈ evr d md := fun k hk => by
  have := (mk_ks _ _ _ _).mp (nz_ks _ _ hk)
  rw [List.map_id'] at this
  exact this
theorem LS.ll (h : LS ws ps e d md low) (x : DD) : (lod d md low x).length ≤ 6 := Nat.le_trans (nz_len _) (Nat.le_trans (mk_len _ _ _) h.evl)
theorem LS.n1 (h : LS ws ps e d md low) (k : Str) : 0 ≤ gt (lod d md low d) k ∧ gt (lod d md low d) k ≤ 200000000000000 := by
  rw [lod_gt]
  have h1 := h.gi.gt k
  have h2 := h.l0
  have h3 := h.l1
  have hb : bigM = 100000000000000 := rfl
  split <;> omega
theorem LS.n2 (h : LS ws ps e d md low) (k : Str) : 0 ≤ gt (lod d md low md) k ∧ gt (lod d md low md) k ≤ 200000000000000 := by
  rw [lod_gt]
  have h1 := h.mo.bd k
  have h2 := h.lm k
  have h3 := h.l1
  have hb : bigM = 100000000000000 := rfl
  split <;> omega
theorem LS.bv (h : LS ws ps e d md low) (k : Str) : (gt (lod d md low d) k - gt (lod d md low md) k).natAbs ≤ 2 ^ 300000 := by
  have h1 := h.n1 k
  have h2 := h.n2 k
  have h3 : (2 : Nat) ^ 60 ≤ 2 ^ 300000 := Nat.pow_le_pow_right (by decide) (by decide)
  have h4 : (2 : Nat) ^ 60 = 1152921504606846976 := by decide
  omega
theorem LS.lo (h : LS ws ps e d md low) : PreLo (ps.map nz2) (lod d md low d) (lod d md low md) := by
  have h1 := h.ll d
  have h2 := h.ll md
  exact ⟨⟨okP_of h.ru, by omega, h.bv⟩, (ng_empty (nz_nrm _)).mpr fun k => (h.n1 k).1, (ng_empty (nz_nrm _)).mpr fun k => (h.n2 k).1, by omega, by omega, nz_nrm _, nz_nrm _⟩
theorem LS.dn (h : LS ws ps e d md low) : ∀ x ∈ sds ps, Dn 1000000 ws x := fun x hx => by
  rcases List.mem_append.mp hx with hx | hx
  · obtain ⟨q, hq, rfl⟩ := List.mem_map.mp hx
    exact (h.ru.pr q hq).1
  · obtain ⟨q, hq, rfl⟩ := List.mem_map.mp hx
    exact (h.ru.pr q hq).2
theorem LS.udm (h : LS ws ps e d md low) : ∀ k ∈ udl ps, k ∈ ws := fun k hk => by
  obtain ⟨x, hx, hkx⟩ := List.mem_flatMap.mp hk
  exact (h.dn x hx).sub k (List.mem_filter.mp hkx).1
theorem LS.pe (h : LS ws ps e d md low) : PreE ps (lod d md low d) (lod d md low md) := by
  have hn : ps.length ≤ 6 := h.ru.n
  have h5 : ws.length ≤ 5 := h.ru.l5
  have h1 := h.ll d
  have h2 := h.ll md
  have hu : (srt (udl ps)).length ≤ ws.length := nodup_le (srt_nodup _) fun k hk => h.udm k ((srt_mem _ _).mp hk)
  have hsd : (sds ps).length = 2 * ps.length := by
    show (ps.map _ ++ ps.map _).length = _
    rw [List.length_append, List.length_map, List.length_map]
    omega
  refine ⟨hn, fun x hx => ?_, ?_, ?_, by omega, by omega, ?_, fun q hq k => ?_, h.bv⟩
  · have := (h.dn x hx).len
    omega
  · have := flat_len (l := sds ps) (f := nzk) (n := 5) fun x hx => by
      refine Nat.le_trans (List.length_filter_le ..) ?_
      rw [ks_len]
      have := (h.dn x hx).len
      omega
    show ((sds ps).flatMap nzk).length < 64
    omega
  · rw [List.length_append, List.length_append, ks_len, ks_len]
    omega
  · refine Nat.le_trans (nodup_le (srt_nodup _) fun k hk => ?_) h.kl
    rcases List.mem_append.mp ((srt_mem _ _).mp hk) with hk | hk
    · rcases List.mem_append.mp hk with hk | hk
      · exact List.mem_append_left _ (h.udm k ((srt_mem _ _).mp hk))
      · exact h.evs k (lod_ks k hk)
    · exact h.evs k (lod_ks k hk)
  · obtain ⟨a1, a2⟩ := h.ru.pr q hq
    have b1 := a1.gt k
    have b2 := a2.gt k
    have : (2 : Nat) ^ 20 = 1048576 := by decide
    omega
theorem LS.do_ (h : LS ws ps e d md low) {f : Row} (hf : FacK (ps.map nz2) (lod d md low d) (lod d md low md) (some f)) : PreDo ps (lod d md low d) (lod d md low md) f := by
  refine ⟨h.lo, hf, ws ++ e, by have := h.kl; omega, h.kw, fun k hk => h.evs k (lod_ks k hk), fun q hq => ?_⟩
  obtain ⟨a1, a2⟩ := h.ru.pr q hq
  exact ⟨Dn.wide a1 fun k hk => List.mem_append_left _ hk, Dn.wide a2 fun k hk => List.mem_append_left _ hk⟩
theorem fac_eqk {f : Row} {a b : DD} (hf : FacK (ps.map nz2) a b (some f)) : Eqk ps a b := eqk_nz.mp ⟨f, hf.2.1⟩
end
end Y
/-! text ZU -/
set_option Elab.async false
set_option linter.all false
set_option maxRecDepth 100000
namespace Y
open PySem PySem.Spec PyProof.Rows L2 Mt
theorem sl_at {G : Gam} {P Q : VP} {σ : St} {H : Hp} (l : SL G σ H) (i : Nat) (hi : G[i]? = some (some P)) (h : ∀ v, P.p v H → Q.p v H) : SL (G.set i (some Q)) σ H := by
  obtain ⟨v, e, p⟩ := l.2 i _ hi
  have q1 := SL.set (i := i) (v := v) (P := Q) l (h v p)
  have eq : σ.set i (some v) = σ := by
    apply List.ext_getElem?
    intro j
    rw [List.getElem?_set]
    split
    · rename_i ej
      subst ej
      split
      · exact e.symm
      · rename_i hl
        have : σ[i]? = none := List.getElem?_eq_none_iff.mpr (by omega)
        rw [this] at e
        cases e
    · rfl
  rw [eq] at q1
  exact q1
theorem stA.pen {L : List Addr} {B : Bs} {G : Gam} {q : Addr} {n m : Nat} {σ : St} {H : Hp} (h : stA L B G [(q, CPen n)] σ H) (hn : n ≤ m) : stA L B G [(q, CPen m)] σ H := by
  obtain ⟨H0, g, l, mm, f⟩ := h
  exact ⟨H0, g, l, mo_w (pen_w hn) _ _ mm, f⟩
theorem rc_min2 {L : List Addr} {i j : Int} : RC L (fun xs H Q => ∃ i j, xs = [.int i, .int j] ∧ Q (.int (if j < i then j else i)) H) [Vl (.int i), Vl (.int j)] (Vl (.int (if j < i then j else i))) := fun xs H H0 s hv Q k => by
  obtain ⟨v, w, rfl, p1, p2⟩ := all2 hv
  have p1 : v = .int i := p1
  have p2 : w = .int j := p2
  subst p1 p2
  exact ⟨i, j, rfl, k _ H H0 (.refl s) rfl⟩
theorem rv_catT {a b : List Str} (h : a.length + b.length ≤ sizeLine) : RV [] rCat (TL a) (TL b) (TL (a ++ b)) := fun x y H H0 s p1 p2 Q k => rv_cat (Ps := a.map fun k => Vl (.str k)) (Qs := b.map fun k => Vl (.str k)) (by rw [List.length_map, List.length_map]; exact h) x y H H0 s p1 p2 Q fun z H' H0' g p => k z H' H0' g (by
  show (Ls ((a ++ b).map _)).p z H0'
  rw [List.map_append]
  exact p)
/-- what loan's tuple is with its list lent -/
theorem td_of {C : Addr} {ps : List (DD × DD)} {f : Row} {v : V} {q : Addr} {o : HO} {H0 : Hp} (h1 : H0 q = none) (p : (Tp [Ld C (bor ps f), Rf q]).p v H0) (ho : (CLs (usP f)).p o H0) : (Td C ps f).p v (upd H0 q o) := by
  have sm : Same H0 (upd H0 q o) := fun b u e => by
    rw [upd_ne (ne_of_none e h1)]
    exact e
  obtain ⟨vs, e, hv⟩ := ho
  subst e
  obtain ⟨a, us, ev, ha, hu⟩ := p
  match us, hu with
  | [x, y], ⟨hx, hy, _⟩ =>
    have hy : y = .ref q := hy
    subst hy
    exact ⟨a, [x, .ref q], ev, sm _ _ ha, (Ld C (bor ps f)).mono _ _ _ sm hx, ⟨q, vs, rfl, upd_same, hv.mono sm⟩, trivial⟩
theorem td_lend {C : Addr} {ps : List (DD × DD)} {f : Row} {q : Addr} {G : Gam} (hi : G[13]? = some (some (Tp [Ld C (bor ps f), Rf q]))) : ∀ (σ : St) H0 vs, SL G σ H0 → H0 q = none → AllP H0 vs (usP f) → SL (G.set 13 (some (Td C ps f))) σ (upd H0 q (.lst vs)) := fun σ H0 vs l h1 h2 => by
  have sm : Same H0 (upd H0 q (.lst vs)) := fun b u e => by
    rw [upd_ne (ne_of_none e h1)]
    exact e
  obtain ⟨v, e, p⟩ := l.2 13 _ hi
  have h3 := td_of h1 p ⟨vs, rfl, h2⟩
  have q1 := SL.set (i := 13) (v := v) (P := Td C ps f) (l.mono sm) h3
  have eq : σ.set 13 (some v) = σ := by
    apply List.ext_getElem?
    intro j
    rw [List.getElem?_set]
    split
    · rename_i ej
      subst ej
      split
      · exact e.symm
      · rename_i hl
        have : σ[13]? = none := List.getElem?_eq_none_iff.mpr (by omega)
        rw [this] at e
        cases e
    · rfl
  rw [eq] at q1
  exact q1
theorem ok_nil : OkP [] := ⟨by decide, (fun _ h => by cases h), by decide, by decide, by decide, fun _ h => by cases h⟩
abbrev la1 : DD := nz [(("a" : Str), 1)]
theorem la1_gt (k : Str) : gt la1 k = if k = "a" then 1 else 0 := by
  rw [nz_gt]
  unfold gt
  rw [gv_cons]
  by_cases h : ("a" : Str) = k
  · rw [if_pos h, if_pos h.symm]
    rfl
  · rw [if_neg h, if_neg fun e => h e.symm]
    rfl
theorem la0_gt (k : Str) : gt (nz []) k = 0 := by
  rw [nz_gt]
  rfl
theorem la_lo {b : DD} (h : ∀ k, 0 ≤ gt b k ∧ gt b k ≤ 1) (hl : b.length ≤ 1) (hn : Nrm b) : PreLo [] la1 b := by
  have h1 := nz_len [(("a" : Str), (1 : Int))]
  have h1 : la1.length ≤ 1 := h1
  refine ⟨⟨ok_nil, by omega, fun k => ?_⟩, (ng_empty (nz_nrm _)).mpr fun k => ?_, (ng_empty hn).mpr fun k => (h k).1, by omega, by omega, nz_nrm _, hn⟩
  · have h2 := h k
    rw [la1_gt]
    have h3 : (2 : Nat) ^ 1 ≤ 2 ^ 300000 := Nat.pow_le_pow_right (by decide) (by decide)
    split <;> omega
  · rw [la1_gt]
    split <;> omega
/-- o.loan(a, b), its list staying -/
theorem xe_loan {X : Cx} {o e : Expr} {es : List Expr} {G : Gam} {M : Ml} {pos apos : Pos} {pl : Sem Bool} {C EC : Addr} {ps : List (DD × DD)} {a b : DD} (N : MCal X.prog X.w X.K X.mg X.base 9 EC "loan" ["self", "one", "other"] (spLn EC C)) (hr : Room 9 X.A) (ZE : ExF X.K EC) (hlo : PreLo ps a b) (ho : XE X [] o G M (Ex EC C ps) M) (ha : XA X [] (e :: es) G M [Ld C a, Ld C b] M)
    (hst : starEach (e :: es) X.env = (false, eval e X.env) :: starEach es X.env := by rfl) (hpl : (backTo pos (starEach es X.env)).any (·.1) = false := by rfl)
    (ht : eval (.Call (.Attribute o "loan" apos) (e :: es) [] pos) X.env = (do let ov ← eval o X.env; standAt apos.atName; let (f, first) ← holding [ov] (getMethod ov "loan" pl); callWith pos f first (backTo pos (starEach (e :: es) X.env)) (backToKw pos (keywordEach [] X.env))) := by rfl) :
    XE X [] (.Call (.Attribute o "loan" apos) (e :: es) [] pos) G M (OrP (ExP (fun _ : Unit => ¬ Eqk ps a b) (fun _ => Vl .non)) (ExP (fun f : Row => FacK ps a b (some f)) (Td C ps))) M :=
  XEY.xe (R := fun f q => Tp [Ld C (bor ps f), Rf q]) (Cf := fun f => CLs (usP f)) (xey_mt (α := Qr) (β := Row) (R0 := fun q => ExP (fun _ : Unit => ¬ Eqk q.1 q.2.1 q.2.2) (fun _ => Vl .non)) (ok := fun q f => FacK q.1 q.2.1 q.2.2 (some f)) (R := fun q f c => Tp [Ld C (bor q.1 f), Rf c]) (Cf := fun q f => CLs (usP f)) N hr ZE.cl ho (xf_no (by decide +kernel)) (ps, a, b) ha rfl hlo hst hpl ht) fun b v q o H0 hb p h1 ho => td_of h1 p ho
end Y
/-! text ZV -/
set_option Elab.async false
set_option linter.all false
set_option maxRecDepth 100000
namespace Y
open PySem PySem.Spec PyProof.Rows L2 Mt
section
variable {P : Program} {w : World} {K : PySem.W.Frag} {mg : Str → Option Value} {base : Heap} {C EC : Addr}
abbrev sLw : Stmt := top 80
abbrev nLw : List Str := ["_law_script", "_law_pen_here", "_law_turn", "_law_words_here", "_law_rules_here", "_law_made_here", "_law_again", "_law_given", "_law_moved_here", "_law_low", "_law_every", "_law_one", "_law_other", "_law_told", "_law_n", "_law_word"]
theorem scLw : FnScope nLw ["_law_script"] (defScope sLw) := ⟨rfl, rfl, rfl, by decide +kernel, rfl, by decide +kernel, by decide +kernel⟩
abbrev spLw : Sp := spP (α := List Int) (fun xs => xs.length ≤ 63) (fun xs => [Fz xs]) (fun _ => Vl (.bl true))
abbrev GW (xs : List Int) (q : Addr) (a2 a3 a4 a5 a6 a7 a8 a9 a10 a11 a12 a13 a14 a15 : Option VP) : Gam := [some (Fz xs), some (Rf q), a2, a3, a4, a5, a6, a7, a8, a9, a10, a11, a12, a13, a14, a15]
/-- all that the law calls -/
structure Callees (P : Program) (w : World) (K : PySem.W.Frag) (mg : Str → Option Value) (base : Heap) (C EC : Addr) : Prop where
  T : Bt mg
  Z : LdF K C
  ZE : ExF K EC
  hL : mg "Load" = some (.ref C)
  Pn : Cal P w K mg base 1 "_law_pen" ["_law_script"] spPn
  Ru : Cal P w K mg base 5 "_law_rules" ["_law_pen_here", "_law_most_kinds", "_law_most_pairs"] spRu
  Md : Cal P w K mg base 14 "_law_made" ["_law_pairs"] (spMd EC C)
  Sk : Cal P w K mg base 4 "_law_stock" ["_law_pen_here", "_law_words_here"] spSk
  Wo : Cal P w K mg base 3 "_law_words" ["_law_pen_here", "_law_many"] spWo
  Mo : Cal P w K mg base 4 "_law_moved" ["_law_pen_here", "_law_rules_here", "_law_given", "_law_words_here"] spMo
  Eq : Cal P w K mg base 4 "_law_is_equal" ["_law_rules_here", "_law_left", "_law_right"] spEq
  Do : Cal P w K mg base 7 "_law_is_done" ["_law_rules_here", "_law_one", "_law_other", "_law_told"] (spDo C)
  LF : KCal P w K mg base 5 C "of" (spLF C)
  LC : PCal P w K mg base 1 C "counts" (spLC C)
  Ln : MCal P w K mg base 9 EC "loan" ["self", "one", "other"] (spLn EC C)
  IL : MCal P w K mg base 9 EC "is_loan" ["self", "one", "other", "value"] (spIL EC C)
  EI : ICal P w K mg base 11 "Exchanges" EC (spEI EC C)
  LI : ICal P w K mg base 3 "Load" C (spLI C)
  LIa : ICalK P w K mg base 3 "Load" C "a" (spLIa C)
theorem k_Lw {f : Addr} {fd : FuncData} (F : Fun K "law" "law" sLw f fd) (c : Callees P w K mg base C EC) : FnOk P w K mg base CX0 15 f fd ["_law_script"] spLw := by
  refine fn_ok F scLw (fun _ _ => rfl) ?_
  rintro xs hxs cdv A outer s H E B D hB hr hrt hnx
  have hxs : xs.length ≤ 63 := hxs
  obtain ⟨T, Z, ZE, hL, cPn, cRu, cMd, cSk, cWo, cMo, cEq, cDo, cLF, cLC, cLn, cIL, cEI, cLI, cLIa⟩ := c
  refine xs_setm (i := 1) (C := CPen 0) (M1 := []) (xem_call (As := fun xs => [Fz xs]) (Cf := fun _ => CPen 0) (k := 1) cPn (hr.mono (by omega)) xs (xa_cons (v 0) xa_nil) hxs) scLw.nd rfl (.inl rfl) fun q => ?_
  obtain ⟨n, hn, hn8⟩ : ∃ n : Nat, (4 : Int) + (if (xs.length : Int) < 4 then (xs.length : Int) else 4) = (n : Int) ∧ n ≤ 8 := by
    by_cases h : (xs.length : Int) < 4
    · exact ⟨4 + xs.length, by rw [if_pos h, Int.natCast_add]; rfl, by omega⟩
    · exact ⟨8, by rw [if_neg h]; rfl, Nat.le_refl _⟩
  show XS _ _ _ _ (GW xs q none none none none none none none none none none none none none none) [(q, CPen 0)] _
  refine xs_for (ι := Unit) PassesOwn.never rfl (M1 := [(q, CPen 0)]) (xi_range (n := n) (by rfl) T.range (XE.w (xe_op op_add (rv_i0 (i := 4) (j := if (xs.length : Int) < 4 then (xs.length : Int) else 4)) xe_int (xe_callB (call_min2 rfl) (rc_min2 (i := 4) (j := (xs.length : Int))) (by rfl) T.min bt_min (xa_cons xe_int (xa_cons (xe_callB call_len_seq rc_lenF (by rfl) T.len bt_len (xa_cons (v 0) xa_nil)) xa_nil)))) fun v H p => ?_) (by omega)) (fun _ _ => True) (fun _ _ => GW xs q none none none none none none none none none none none none none none) (fun i _ => [(q, CPen (1300 * i))]) ⟨(), trivial, (fun _ _ h => h), rfl, fun _ _ h => h⟩ (fun _ _ _ _ _ _ => MO.nil) ?_ ?_
  · rw [← hn]
    exact p
  · rintro i - Q B' bl hQ -
    have hi : i < n := by
      have := (List.getElem?_eq_some_iff.mp hQ).1
      rw [rngP_len] at this
      exact this
    rw [rngP_at hi] at hQ
    cases hQ
    refine ⟨[2], _, xg_name (i := 2) scLw.nd rfl (.inl rfl), ?_⟩
    show XS _ _ _ _ (GW xs q (some (Vl (.int (i : Int)))) none none none none none none none none none none none none none) [(q, CPen (1300 * i))] _
    refine xs_asgX (js := [3, 4]) (f := OkRu) (Q := Rul) (M1 := [(q, CPen (1300 * i + 854))]) (xcq [] cRu (hr.mono (by omega)) (q, 1300 * i) (xa_cons (v 1) (xa_cons xe_int (xa_cons xe_int xa_nil))) (by show 1300 * i < 600000; omega) rfl rfl fun _ _ p => p) fun r hru => ⟨_, xg_tup rfl (xgs_cons (xg_name (i := 3) scLw.nd rfl (.inl rfl)) (xgs_cons (xg_name (i := 4) scLw.nd rfl (.inl rfl)) xgs_nil)), ?_⟩
    obtain ⟨ws, ps⟩ := r
    have hru : OkRu (ws, ps) := hru
    have hl2 : 2 ≤ ws.length := hru.l2
    have hl5 : ws.length ≤ 5 := hru.l5
    have hps : ps.length ≤ 6 := hru.n
    show XS _ _ _ _ (GW xs q (some (Vl (.int (i : Int)))) (some (TL ws)) (some (LPd ps)) none none none none none none none none none none none) [(q, CPen (1300 * i + 854))] _
    refine xs_set (i := 5) (P := Ex EC C (ps.map nz2)) (M1 := [(q, CPen (1300 * i + 854))]) (xpw cMd hr ps (xa_cons (v 4) xa_nil) ⟨okP_of hru, fun u hu => ?_, by show ps.length < 64; omega⟩ fun _ _ p => p) scLw.nd rfl (.inl rfl) ?_
    · obtain ⟨a1, a2⟩ := hru.pr u hu
      have b1 := a1.len
      have b2 := a2.len
      have b1 : u.1.length ≤ ws.length := b1
      have b2 : u.2.length ≤ ws.length := b2
      exact ⟨⟨by omega, fun k hk => hru.w k (a1.sub k hk)⟩, ⟨by omega, fun k hk => hru.w k (a2.sub k hk)⟩⟩
    show XS _ _ _ _ (GW xs q (some (Vl (.int (i : Int)))) (some (TL ws)) (some (LPd ps)) (some (Ex EC C (ps.map nz2))) none none none none none none none none none none) [(q, CPen (1300 * i + 854))] _
    refine xs_for (ι := Unit) PassesOwn.never rfl (M1 := [(q, CPen (1300 * i + 854))]) (xi_range (n := 3) (by rfl) T.range xe_int (by decide)) (fun _ _ => True) (fun _ _ => GW xs q (some (Vl (.int (i : Int)))) (some (TL ws)) (some (LPd ps)) (some (Ex EC C (ps.map nz2))) none none none none none none none none none none) (fun j _ => [(q, CPen (1300 * i + 854 + 130 * j))]) ⟨(), trivial, (fun _ _ h => h), rfl, fun _ _ h => h⟩ (fun _ _ _ _ _ _ => MO.nil) ?_ ?_
    · rintro j - Q B2 bl2 hQ -
      have hj : j < 3 := by
        have := (List.getElem?_eq_some_iff.mp hQ).1
        rw [rngP_len] at this
        exact this
      rw [rngP_at hj] at hQ
      cases hQ
      obtain ⟨b, hb⟩ : ∃ b, b = 1300 * i + 854 + 130 * j := ⟨_, rfl⟩
      have hb2 : b < 20000 := by omega
      refine ⟨[6], _, xg_name (i := 6) scLw.nd rfl (.inl rfl), ?_⟩
      show XS _ _ _ _ (GW xs q (some (Vl (.int (i : Int)))) (some (TL ws)) (some (LPd ps)) (some (Ex EC C (ps.map nz2))) (some (Vl (.int (j : Int)))) none none none none none none none none none) [(q, CPen (1300 * i + 854 + 130 * j))] _
      rw [← hb]
      refine xs_asgX (js := [7]) (f := fun d => ∃ e, okWs 1 e ∧ Dn 2000000 (ws ++ e) d) (Q := Dc) (M1 := [(q, CPen (b + 12 + 8 * (ws.length + 1)))]) (xcX (β := List Str) (Ps := [Rf q, ExP (okWs 1) fun e => TL (ws ++ e)]) (M1 := [(q, CPen (b + 12))]) [] cSk (hr.mono (by omega)) (okWs 1) (fun e => (q, b + 12, ws ++ e)) (xa_cons (v 1) (xa_cons (xe_op op_cat (P1 := TL ws) (P2 := ExP (okWs 1) TL) (fun x y H H0 s p1 ⟨e, he, p2⟩ Q k => rv_catT (a := ws) (b := e) (by rw [he.1, sizeLine_eq]; omega) x y H H0 s p1 p2 Q fun z H' H0' g p => k z H' H0' g ⟨e, he, p⟩) (v 3) (xcq [] cWo (hr.mono (by omega)) (q, b, 1) (xa_cons (v 1) (xa_cons xe_int xa_nil)) ⟨by show b < 700000; omega, (by decide : 1 ≤ 6)⟩ rfl rfl fun _ _ p => p)) xa_nil))
        (fun vs H h => ?_) (fun e he => ?_) (fun _ _ => rfl) (fun e he => ?_) (fun e he v H ⟨d, hd, p⟩ => ⟨d, ⟨e, he, hd⟩, p⟩)) ?_
      · match vs, h with
        | [x, y], ⟨h1, ⟨e, he, h2⟩, _⟩ => exact ⟨e, he, h1, h2, trivial⟩
      · refine ⟨by show b + 12 < 700000; omega, ?_⟩
        show (ws ++ e).length ≤ 8
        rw [List.length_append, he.1]
        omega
      · show [(q, CPen (b + 12 + 8 * (ws.length + 1)))] = [(q, CPen (b + 12 + 8 * (ws ++ e).length))] ++ []
        rw [List.length_append, he.1, List.append_nil]
      rintro d ⟨e, he, hd⟩
      refine ⟨_, xg_name (i := 7) scLw.nd rfl (.inr rfl), ?_⟩
      obtain ⟨b2, hb3⟩ : ∃ b2, b2 = b + 12 + 8 * (ws.length + 1) := ⟨_, rfl⟩
      rw [← hb3]
      have hkl : (ws ++ e).length ≤ 6 := by
        rw [List.length_append, he.1]
        omega
      refine xs_asgX (js := [8]) (f := Mv bigM (ws ++ e)) (Q := Dc) (M1 := [(q, CPen (b2 + 60))]) (xcq [] cMo (hr.mono (by omega)) (q, b2, (ws, ps), d, ws ++ e) (xa_cons (v 1) (xa_cons (v 4) (xa_cons (v 7) (xa_cons (v 3) xa_nil)))) ⟨by show b2 < 600000; omega, hru, hd, fun k hk => List.mem_append_left _ hk, hkl⟩ rfl rfl fun _ _ p => p) fun md hmd => ⟨_, xg_name (i := 8) scLw.nd rfl (.inr rfl), ?_⟩
      have hmd : Mv bigM (ws ++ e) md := hmd
      have hml := hmd.len
      show XS _ _ _ _ (GW xs q (some (Vl (.int (i : Int)))) (some (TL ws)) (some (LPd ps)) (some (Ex EC C (ps.map nz2))) (some (Vl (.int (j : Int)))) (some (Dc d)) (some (Dc md)) none none none none none none none) [(q, CPen (b2 + 60))] _
      refine xs_set (i := 9) (P := II fun m => m ∈ (md.map (·.2) ++ [0]) ∧ ∀ y ∈ (md.map (·.2) ++ [0]), m ≤ y) (M1 := [(q, CPen (b2 + 60))]) (xe_callB (cr_min rfl) (rc_min (by rw [List.length_append]; exact Nat.succ_pos _)) (by rfl) T.min bt_min (xa_cons (XE.w (XLc.ls (xlcM (own := [("_law_n", 14)]) [14] (fun z : Int => GW xs q (some (Vl (.int (i : Int)))) (some (TL ws)) (some (LPd ps)) (some (Ex EC C (ps.map nz2))) (some (Vl (.int (j : Int)))) (some (Dc d)) (some (Dc md)) none none none none none (some (Vl (.int z))) none) (md.map (·.2) ++ [0]) (fun z => Vl (.int z)) (fun z => Vl (.int z)) rfl scLw.nd (xi_list (XE.w (xe_op op_cat (rv_cat (Ps := md.map fun q => Vl (.int q.2)) (Qs := [Vl (.int 0)]) ?_) (xe_listVals (v 8) T.list) (xe_lst (xa_cons xe_int xa_nil) sl1)) fun v H p => ?_)) (blkOk_by (N := nLw) (sc := defScope sLw) (by decide +kernel)) (fun _ _ _ => MO.nil) (len64 (by rw [List.length_append, List.length_map]; show md.length + 1 < 64; omega)) (by decide)
        (fun z hz s H C cl fp => xg_name (i := 14) scLw.nd rfl (.inl rfl)) (fun z hz s H C cl fp => xe_callTy call_int1 rc_int (by rfl) T.int PyProof.Rows.boot_int (xa_cons (v 14) xa_nil)))) fun v H p => ?_) xa_nil)) scLw.nd rfl (.inr rfl) ?_
      · rw [List.length_map, sizeLine_eq]
        show md.length + 1 ≤ _
        omega
      · rw [List.map_append, List.map_map]
        exact p
      · exact p
      refine xs_openI (i := 9) rfl fun low hlow => ?_
      obtain ⟨hl1, hl2'⟩ := hlow
      have hbig : bigM = 100000000000000 := rfl
      have hgv : ∀ u ∈ md, gt md u.1 = u.2 := fun u hu => by
        unfold gt
        rw [gv_of_mem hmd.nd hu]
        rfl
      have ls : LS ws ps e d md low := by
        refine ⟨hru, he, hd, hmd, hl2' 0 (List.mem_append_right _ (.head _)), ?_, fun k => ?_⟩
        · rcases List.mem_append.mp hl1 with h | h
          · obtain ⟨u, hu, rfl⟩ := List.mem_map.mp h
            have h1 := hmd.bd u.1
            rw [hgv u hu] at h1
            omega
          · rw [List.mem_singleton.mp h]
            omega
        · have h0 := hl2' 0 (List.mem_append_right _ (.head _))
          cases eg : gv md k with
          | none =>
            have : gt md k = 0 := by unfold gt; rw [eg]; rfl
            omega
          | some z =>
            have : gt md k = z := by unfold gt; rw [eg]; rfl
            rw [this]
            exact hl2' z (List.mem_append_left _ (List.mem_map.mpr ⟨(k, z), mem_of_gv eg, rfl⟩))
      have hdl := hd.len
      have hev := ls.evl
      show XS _ _ _ _ (GW xs q (some (Vl (.int (i : Int)))) (some (TL ws)) (some (LPd ps)) (some (Ex EC C (ps.map nz2))) (some (Vl (.int (j : Int)))) (some (Dc d)) (some (Dc md)) (some (Vl (.int low))) none none none none none none) [(q, CPen (b2 + 60))] _
      refine xs_set (i := 10) (P := TL (evr d md)) (M1 := [(q, CPen (b2 + 60))]) (xe_sortset (ks := ks d ++ ks md) (P := TL (ks d ++ ks md)) (xe_op op_cat (rv_catT (a := ks d) (b := ks md) ?_) (xe_callTy (call_listD rfl) rc_listD (by rfl) T.list PyProof.Rows.boot_list (xa_cons (v 7) xa_nil)) (xe_callTy (call_listD rfl) rc_listD (by rfl) T.list PyProof.Rows.boot_list (xa_cons (v 8) xa_nil))) (fun v H p => .inl p) (by rw [List.length_append, ks_len, ks_len]; omega) T.sorted T.set) scLw.nd rfl (.inl rfl) ?_
      · rw [ks_len, ks_len, sizeLine_eq]
        omega
      show XS _ _ _ _ (GW xs q (some (Vl (.int (i : Int)))) (some (TL ws)) (some (LPd ps)) (some (Ex EC C (ps.map nz2))) (some (Vl (.int (j : Int)))) (some (Dc d)) (some (Dc md)) (some (Vl (.int low))) (some (TL (evr d md))) none none none none none) [(q, CPen (b2 + 60))] _
      have mkl : ∀ x : DD, (mk (fun k : Str => k) (fun k => gt x k - low) (evr d md)).length < 64 := fun x => Nat.lt_of_le_of_lt (mk_len _ _ _) (by omega)
      have mkw : ∀ x : DD, ∀ k ∈ ks (mk (fun k : Str => k) (fun k => gt x k - low) (evr d md)), Wd k := fun x k hk => by
        have := (mk_ks _ _ _ _).mp hk
        rw [List.map_id'] at this
        exact ls.kw k (ls.evs k this)
      refine xs_set (i := 11) (P := Ld C (lod d md low d)) (M1 := [(q, CPen (b2 + 60))]) (xe_cmeth (P := Ld C (lod d md low d)) cLF (hr.mono (by omega)) (xe_gl hL rfl) (xa_cons (xe_callTy (call_dictP rfl) (rc_dictP (fun k : Str => k) (fun k => gt d k - low) (evr d md)) (by rfl) T.dict bt_dict (xa_cons (XLc.ls (xlcM (own := [("_law_word", 15)]) [15] (fun k : Str => GW xs q (some (Vl (.int (i : Int)))) (some (TL ws)) (some (LPd ps)) (some (Ex EC C (ps.map nz2))) (some (Vl (.int (j : Int)))) (some (Dc d)) (some (Dc md)) (some (Vl (.int low))) (some (TL (evr d md))) none none none none (some (Vl (.str k)))) (evr d md) (fun k => Vl (.str k)) (fun k => Tp [Vl (.str k), Vl (.int (gt d k - low))]) rfl scLw.nd (xi_list (v 10)) (blkOk_by (N := nLw) (sc := defScope sLw) (by decide +kernel)) (fun _ _ _ => MO.nil) (len64 (by omega)) (by decide)
        (fun z hz s H C cl fp => xg_name (i := 15) scLw.nd rfl (.inl rfl)) (fun k hk s H C cl fp => xe_tup (xa_cons (v 15) (xa_cons (xe_op op_sub (rv_i0 (i := gt d k) (j := low)) (xe_dget2 (un1 hr) (v 7) (v 15) xe_int) (v 9)) xa_nil)) sl2))) xa_nil)) xa_nil) (mk (fun k : Str => k) (fun k => gt d k - low) (evr d md)) ⟨mkl d, mkw d⟩ rfl fun _ _ p => p) scLw.nd rfl (.inl rfl) ?_
      show XS _ _ _ _ (GW xs q (some (Vl (.int (i : Int)))) (some (TL ws)) (some (LPd ps)) (some (Ex EC C (ps.map nz2))) (some (Vl (.int (j : Int)))) (some (Dc d)) (some (Dc md)) (some (Vl (.int low))) (some (TL (evr d md))) (some (Ld C (lod d md low d))) none none none none) [(q, CPen (b2 + 60))] _
      refine xs_set (i := 12) (P := Ld C (lod d md low md)) (M1 := [(q, CPen (b2 + 60))]) (xe_cmeth (P := Ld C (lod d md low md)) cLF (hr.mono (by omega)) (xe_gl hL rfl) (xa_cons (xe_callTy (call_dictP rfl) (rc_dictP (fun k : Str => k) (fun k => gt md k - low) (evr d md)) (by rfl) T.dict bt_dict (xa_cons (XLc.ls (xlcM (own := [("_law_word", 15)]) [15] (fun k : Str => GW xs q (some (Vl (.int (i : Int)))) (some (TL ws)) (some (LPd ps)) (some (Ex EC C (ps.map nz2))) (some (Vl (.int (j : Int)))) (some (Dc d)) (some (Dc md)) (some (Vl (.int low))) (some (TL (evr d md))) (some (Ld C (lod d md low d))) none none none (some (Vl (.str k)))) (evr d md) (fun k => Vl (.str k)) (fun k => Tp [Vl (.str k), Vl (.int (gt md k - low))]) rfl scLw.nd (xi_list (v 10)) (blkOk_by (N := nLw) (sc := defScope sLw) (by decide +kernel)) (fun _ _ _ => MO.nil) (len64 (by omega)) (by decide)
        (fun z hz s H C cl fp => xg_name (i := 15) scLw.nd rfl (.inl rfl)) (fun k hk s H C cl fp => xe_tup (xa_cons (v 15) (xa_cons (xe_op op_sub (rv_i0 (i := gt md k) (j := low)) (xe_dget2 (un1 hr) (v 8) (v 15) xe_int) (v 9)) xa_nil)) sl2))) xa_nil)) xa_nil) (mk (fun k : Str => k) (fun k => gt md k - low) (evr d md)) ⟨mkl md, mkw md⟩ rfl fun _ _ p => p) scLw.nd rfl (.inl rfl) ?_
      show XS _ _ _ _ (GW xs q (some (Vl (.int (i : Int)))) (some (TL ws)) (some (LPd ps)) (some (Ex EC C (ps.map nz2))) (some (Vl (.int (j : Int)))) (some (Dc d)) (some (Dc md)) (some (Vl (.int low))) (some (TL (evr d md))) (some (Ld C (lod d md low d))) (some (Ld C (lod d md low md))) none none none) [(q, CPen (b2 + 60))] _
      have hlo := ls.lo
      have hpe := ls.pe
      have hbend : b2 + 60 ≤ 1300 * i + 854 + 130 * (j + 1) := by omega
      refine xs_setY (i := 13) (xey_mt cLn (hr.mono (by omega)) ZE.cl (v 5) (xf_no (by decide +kernel)) ((ps.map nz2), lod d md low d, lod d md low md) (xa_cons (v 11) (xa_cons (v 12) xa_nil)) rfl hlo) scLw.nd rfl (.inl rfl) ?_ fun fr q' hf => ?_
      · refine xs_open (i := 13) (f := fun _ : Unit => ¬ Eqk (ps.map nz2) (lod d md low d) (lod d md low md)) (Q := fun _ => Vl .non) rfl fun _ hne => ?_
        have hne : ¬ Eqk ps (lod d md low d) (lod d md low md) := fun h => hne (eqk_nz.mpr h)
        show XS _ _ _ _ (GW xs q (some (Vl (.int (i : Int)))) (some (TL ws)) (some (LPd ps)) (some (Ex EC C (ps.map nz2))) (some (Vl (.int (j : Int)))) (some (Dc d)) (some (Dc md)) (some (Vl (.int low))) (some (TL (evr d md))) (some (Ld C (lod d md low d))) (some (Ld C (lod d md low md))) (some (Vl .non)) none none) [(q, CPen (b2 + 60))] _
        refine xs_when (M1 := [(q, CPen (b2 + 60))]) (p := (· = (false != false))) (xt_cmp op_ne (rv_neB (i := false) (j := false)) (xe_cmp op_notN (rv_notN (k := true) non_isN) (v 13) xe_non (nomark _)) (XE.w (xpw cEq (hr.mono (by omega)) (ps, lod d md low d, lod d md low md) (xa_cons (v 4) (xa_cons (XEm.dc (xem_prop (Cf := fun q => CDc q) cLC (hr.mono (by omega)) Z.ik.cl (v 11) (lod d md low d) trivial rfl ld_isI)) (xa_cons (XEm.dc (xem_prop (Cf := fun q => CDc q) cLC (hr.mono (by omega)) Z.ik.cl (v 12) (lod d md low md) trivial rfl ld_isI)) xa_nil))) hpe fun _ _ p => p) fun v H ⟨bb, hbb, p⟩ => ?_) (nomark _)) (fun ht => by cases ht) (fun _ => ?_)
        · cases bb with
          | true => exact absurd (hbb.mp rfl) hne
          | false => exact p
        refine xs_when (M1 := [(q, CPen (b2 + 60))]) (p := (· = (false && false))) (XW.xt (xw_and (k := false) (k' := false) (xt_cmp op_notN (rv_notN (k := true) non_isN) (v 13) xe_non (nomark _)) fun h => by cases h)) (fun ht => by cases ht) (fun _ => ?_)
        refine xs_when (M1 := [(q, CPen (b2 + 60))]) (p := (· = (false && false))) (XW.xt (xw_and (k := false) (k' := false) (xt_cmp op_notN (rv_notN (k := true) non_isN) (v 13) xe_non (nomark _)) fun h => by cases h)) (fun ht => by cases ht) (fun _ => ?_)
        refine xs_when (M1 := [(q, CPen (b2 + 60))]) (p := (· = false)) (xt_cmp op_notN (rv_notN (k := true) non_isN) (v 13) xe_non (nomark _)) (fun ht => by cases ht) (fun _ => ?_)
        exact xs_nil fun σ H h => ⟨(), trivial, (((((((((h.unset 6).unset 7).unset 8).unset 9).unset 10).unset 11).unset 12).unset 13)).pen hbend⟩
      · have hf : FacK (ps.map nz2) (lod d md low d) (lod d md low md) (some fr) := hf
        have heq := fac_eqk hf
        have hdo := ls.do_ hf
        show XS _ _ _ _ (GW xs q (some (Vl (.int (i : Int)))) (some (TL ws)) (some (LPd ps)) (some (Ex EC C (ps.map nz2))) (some (Vl (.int (j : Int)))) (some (Dc d)) (some (Dc md)) (some (Vl (.int low))) (some (TL (evr d md))) (some (Ld C (lod d md low d))) (some (Ld C (lod d md low md))) (some (Tp [Ld C (bor (ps.map nz2) fr), Rf q'])) none none) [(q, CPen (b2 + 60)), (q', CLs (usP fr))] _
        refine xs_when (M1 := [(q, CPen (b2 + 60)), (q', CLs (usP fr))]) (p := (· = (true != true))) (xt_cmp op_ne (rv_neB (i := true) (j := true)) (xe_cmp op_notN (rv_notN (k := false) tp_notN) (v 13) xe_non (nomark _)) (XE.w (xpw cEq (hr.mono (by omega)) (ps, lod d md low d, lod d md low md) (xa_cons (v 4) (xa_cons (XEm.dc (xem_prop (Cf := fun q => CDc q) cLC (hr.mono (by omega)) Z.ik.cl (v 11) (lod d md low d) trivial rfl ld_isI)) (xa_cons (XEm.dc (xem_prop (Cf := fun q => CDc q) cLC (hr.mono (by omega)) Z.ik.cl (v 12) (lod d md low md) trivial rfl ld_isI)) xa_nil))) hpe fun _ _ p => p) fun v H ⟨bb, hbb, p⟩ => ?_) (nomark _)) (fun ht => by cases ht) (fun _ => ?_)
        · cases bb with
          | true => exact p
          | false => exact absurd (hbb.mpr heq) (by decide)
        refine xs_when (M1 := [(q, CPen (b2 + 60)), (q', CLs (usP fr))]) (p := (· = (true && !true))) (XW.xt (xw_and (k := true) (k' := !true) (xt_cmp op_notN (rv_notN (k := false) tp_notN) (v 13) xe_non (nomark _)) fun _ => xw_one (xt_notk (xt_val (xe_lend (Ps := usP fr) (.tail _ (.head _)) (td_lend rfl) (xpw cDo (hr.mono (by omega)) (ps, lod d md low d, lod d md low md, fr) (xa_cons (v 4) (xa_cons (v 11) (xa_cons (v 12) (xa_cons (v 13) xa_nil)))) hdo fun _ _ p => p)))))) (fun ht => by cases ht) (fun _ => ?_)
        refine xs_when (M1 := [(q, CPen (b2 + 60)), (q', CLs (usP fr))]) (p := (· = (true && !decide (true = true)))) (XW.xt (xw_and (k := true) (k' := !decide (true = true)) (xt_cmp op_notN (rv_notN (k := false) tp_notN) (v 13) xe_non (nomark _)) fun _ => xw_one (xt_cmp op_isnot_bl (P1 := Vl (.bl true)) (P2 := Vl (.bl true)) (rv_of fun x y H H0 s p1 p2 Q k => ⟨true, true, p1, p2, k _ rfl⟩) (xe_lend (Ps := usP fr) (.tail _ (.head _)) (td_lend rfl) (xe_mt (Mi := fun _ => []) (Mo := fun _ => []) (Mf := []) cIL (hr.mono (by omega)) ZE.cl (v 5) (xf_no (by decide +kernel)) ((ps.map nz2, lod d md low d, lod d md low md), fr) (xa_cons (v 11) (xa_cons (v 12) (xa_cons (v 13) xa_nil))) rfl ⟨hlo, hf⟩ fun _ _ p => p)) xe_bl (nomark _)))) (fun ht => by cases ht) (fun _ => ?_)
        refine xs_when (M1 := [(q, CPen (b2 + 60)), (q', CLs (usP fr))]) (p := (· = true)) (xt_cmp op_notN (rv_notN (k := false) tp_notN) (v 13) xe_non (nomark _)) (fun _ => ?_) (fun ht => by cases ht)
        have hul : (usP fr).length < sizeLine := by
          have h1 := nzs_len fr
          have h2 : fr.length = (ps.map nz2).length := hf.1
          rw [List.length_map] at h2 ⊢
          rw [sizeLine_eq]
          omega
        refine xs_expr (P := Vl .non) (M1 := [(q, CPen (b2 + 60)), (q', CLs (usP fr ++ [Vl .non]))]) (xe_app (Ma := [(q, CPen (b2 + 60))]) (Mb := []) (xe_ix ix_tup (fun _ _ => rfl) (rv_ixT (n := 1) (P := Rf q') rfl) (v 13) xe_int) xe_non ⟨_, .tail _ (.head _), fun o H ⟨vs, e, _⟩ => ⟨vs, e⟩⟩ hul) ?_
        refine XS.sub (M' := [(q, CPen (b2 + 60))]) (.cons₂ _ (.cons _ .slnil)) ?_
        refine xs_when (M1 := [(q, CPen (b2 + 60))]) (p := (· = !true)) (xt_notk (xt_val (xcX (β := Row) (Ps := [LPd ps, Ld C (lod d md low d), Ld C (lod d md low md), OrP (ExP (fun _ : Unit => ¬ Eqk (ps.map nz2) (lod d md low d) (lod d md low md)) (fun _ => Vl .non)) (ExP (fun f : Row => FacK (ps.map nz2) (lod d md low d) (lod d md low md) (some f)) (Td C (ps.map nz2)))]) (M1 := [(q, CPen (b2 + 60))]) [(q, CPen (b2 + 60))] cDo (hr.mono (by omega)) (fun f : Row => FacK (ps.map nz2) (lod d md low d) (lod d md low md) (some f)) (fun f => (ps, lod d md low d, lod d md low md, f)) (xa_cons (v 4) (xa_cons (v 11) (xa_cons (v 12) (xa_cons ?_ xa_nil))))
          (fun vs H h => ?_) (fun f hf => ls.do_ hf) (fun _ _ => rfl) (fun _ _ => rfl) (fun _ _ _ _ p => p)))) (fun ht => by cases ht) (fun _ => ?_)
        · exact xe_loan cLn (hr.mono (by omega)) ZE hlo (v 5) (xa_cons (v 11) (xa_cons (v 12) xa_nil))
        · match vs, h with
          | [a1, a2, a3, a4], ⟨h1, h2, h3, h4, _⟩ =>
            rcases h4 with ⟨_, hne, _⟩ | ⟨f, hf', h4⟩
            · exact absurd (eqk_nz.mpr heq) hne
            · exact ⟨f, hf', h1, h2, h3, h4, trivial⟩
        exact xs_nil2 fun σ H h => ⟨(), trivial, (((((((((h.unset 6).unset 7).unset 8).unset 9).unset 10).unset 11).unset 12).unset 13)).pen hbend⟩
    · rintro - -
      rw [rngP_len]
      exact xs_nil fun σ H h => ⟨(), trivial, ((((h.unset 2).unset 3).unset 4).unset 5).pen (by omega)⟩
  · rintro - -
    rw [rngP_len]
    refine XS.sub (M' := []) (.cons _ .slnil) ?_
    have e0 : PreLo [] la1 la1 := la_lo (fun k => by rw [la1_gt]; split <;> omega) (Nat.le_trans (nz_len _) (Nat.le_refl 1)) (nz_nrm _)
    have e1 : PreLo [] la1 (nz []) := la_lo (fun k => by rw [la0_gt]; omega) (Nat.le_trans (nz_len _) (Nat.zero_le 1)) (nz_nrm _)
    refine xs_done (P := Vl (.bl (true && true))) (M1 := []) hrt (xe_and (k := true) (k' := true) (M1 := []) (xe_cmp op_notN (P1 := OrP (ExP (fun _ : Unit => ¬ Eqk [] la1 la1) (fun _ => Vl .non)) (ExP (fun f : Row => FacK [] la1 la1 (some f)) (Td C []))) (M1 := []) (rv_notN (k := false) fun v H p => ?_) ?_ xe_non (nomark _)) fun _ =>
      xe_one (xe_cmp op_isN (P1 := OrP (ExP (fun _ : Unit => ¬ Eqk [] la1 (nz [])) (fun _ => Vl .non)) (ExP (fun f : Row => FacK [] la1 (nz []) (some f)) (Td C []))) (M1 := []) (rv_isN (k := true) fun v H p => ?_) ?_ xe_non (nomark _)))
    · rcases p with ⟨_, hne, _⟩ | ⟨f, _, p⟩
      · exact absurd ⟨[], fun k => by rw [Int.sub_self]; rfl⟩ hne
      · exact tp_notN v H p
    · exact xe_loan cLn (hr.mono (by omega)) ZE e0 (xe_makeI0 (Fs := fun ps => XF C ps) cEI (hr.mono (by omega)) [] ok_nil rfl) (xa_cons (xe_makeA (i := 1) cLIa (hr.mono (by omega)) xe_int) (xa_cons (xe_makeA (i := 1) cLIa (hr.mono (by omega)) xe_int) xa_nil))
    · rcases p with ⟨_, _, p⟩ | ⟨f, hf, _⟩
      · exact non_isN v H p
      · have h1 := hf.2.1 "a"
        rw [la1_gt, la0_gt, if_pos rfl] at h1
        have h2 : cmbK f [] ("a" : Str) = 0 := by
          cases f <;> rfl
        rw [h2] at h1
        exact absurd h1 (by decide)
    · exact xe_loan cLn (hr.mono (by omega)) ZE e1 (xe_makeI0 (Fs := fun ps => XF C ps) cEI (hr.mono (by omega)) [] ok_nil rfl) (xa_cons (xe_makeA (i := 1) cLIa (hr.mono (by omega)) xe_int) (xa_cons (xe_makeK0 (Fs := fun q => LF (knd q.1 q.2)) cLI (hr.mono (by omega)) ([], []) ⟨by decide, fun _ => ⟨by decide, fun _ h => by cases h⟩⟩ rfl) xa_nil))
theorem c_Lw (D : Dfn K mg "law" sLw ["_law_script"]) (c : Callees P w K mg base C EC) : Cal P w K mg base 15 "law" ["_law_script"] spLw := D.cal fun _ _ F => k_Lw F c
end
end Y
/-! text ZW -/
set_option Elab.async false
set_option linter.all false
set_option maxRecDepth 100000
namespace Y
open PySem PySem.Spec PyProof.Rows L2
/-! ### what is read off the heap behind the top -/
def refsY (o : Obj) : List Addr := match o.data with
  | .func fd => He.refV fd.code
  | .cls cd => [cd.ns]
  | .dict es _ => es.toList.flatMap fun e => He.refV e.val
  | .fields vs => (match o.cls with
    | .type n => if n == "property" || (n == "classmethod" || n == "staticmethod") then vs.toList.flatMap He.refV else []
    | _ => [])
  | _ => []
def isLst (o : Obj) : Bool := match o.cls with
  | .type n => n == "list"
  | _ => false
def growY (g : Addr → Option Obj) (as : List Addr) : List Addr := as.flatMap fun a => match g a with
  | some o => refsY o
  | none => []
def asY (g : Addr → Option Obj) : List Addr :=
  let a1 := growY g [mainGlobals]
  let a2 := growY g a1
  let a3 := growY g a2
  let a4 := growY g a3
  let a5 := growY g a4
  (cStatics :: mainGlobals :: (a1 ++ (a2 ++ (a3 ++ (a4 ++ a5))))).filter fun a => match g a with
    | some o => !isLst o
    | none => false
def frY (g : Addr → Option Obj) : PySem.W.Frag := He.frG g (asY g)
/-- a def, where it stands -/
structure DX where
  at_ : PySem.W.Frag → Addr
  name : Str
  qual : Str
  st : Stmt
def DX.val (d : DX) : He.FnV := some (d.name, d.qual, defArgs d.st, .stmts (defBody d.st), defScope d.st, mainGlobals, [], .none, builtinsNs)
def fnA (K : PySem.W.Frag) (a : Addr) : He.FnV := match K.lookup a with
  | some ⟨_, _, .func fd, _⟩ => some (fd.name, fd.qualname, fd.params, fd.body, fd.scope, fd.globals, fd.closure, fd.defaults, fd.builtins)
  | _ => none
def codeA (K : PySem.W.Frag) (a : Addr) (q : Str) : Bool := match K.lookup a with
  | some ⟨_, _, .func fd, _⟩ => PySem.W.codeIn K fd.code q
  | _ => false
def DX.ok (K : PySem.W.Frag) (d : DX) : Bool := PySem.W.keepIn K (.ref (d.at_ K)) && codeA K (d.at_ K) d.qual
theorem DX.fun_ {K : PySem.W.Frag} {d : DX} (e : fnA K (d.at_ K) = d.val) (c : d.ok K = true) : ∃ fd, Fun K d.name d.qual d.st (d.at_ K) fd := by
  obtain ⟨kp, c2⟩ := He.ba c
  unfold codeA at c2
  unfold fnA at e
  cases q : K.lookup (d.at_ K) with
  | none =>
    rw [q] at c2
    cases c2
  | some o =>
    obtain ⟨oc, od, dt, osl⟩ := o
    rw [q] at c2 e
    cases dt with
    | func fd =>
      obtain ⟨n1, n2, n3, n4, n5, n6, n7, n8, n9, n10, n11, n12, n13, n14, n15⟩ := fd
      have e2 : (some (n1, n2, n3, n4, n5, n6, n7, n8, n15) : He.FnV) = some (d.name, d.qual, defArgs d.st, .stmts (defBody d.st), defScope d.st, mainGlobals, [], .none, builtinsNs) := e
      simp only [Option.some.injEq, Prod.mk.injEq] at e2
      obtain ⟨h1, h2, h3, h4, h5, h6, h7, h8, h9⟩ := e2
      subst h1 h2 h3 h4 h5 h6 h7 h8 h9
      exact ⟨_, ⟨oc, od, n9, n10, n11, n12, n13, n14, osl, rfl, q, c2⟩, kp⟩
    | _ => cases c2
/-- the def behind a property, a classmethod, a staticmethod -/
def rg (K : PySem.W.Frag) (T : String) (p : Addr) : Addr := match PySem.W.recIn K p T with
  | some (.ref g :: _) => g
  | _ => 0
def rgB (K : PySem.W.Frag) (T : String) (p : Addr) : Bool := match PySem.W.recIn K p T with
  | some (.ref _ :: _) => true
  | _ => false
theorem rg_ok {K : PySem.W.Frag} {T : String} {p : Addr} (h : rgB K T p = true) : ∃ rest, PySem.W.recIn K p T = some (.ref (rg K T p) :: rest) := by
  unfold rgB at h
  unfold rg
  cases q : PySem.W.recIn K p T with
  | none =>
    rw [q] at h
    cases h
  | some l =>
    cases l with
    | nil =>
      rw [q] at h
      cases h
    | cons v r =>
      cases v with
      | ref g => exact ⟨r, rfl⟩
      | _ =>
        rw [q] at h
        cases h
abbrev tyT : Value := .type "type"
def getB (K : PySem.W.Frag) (C : Addr) (m : Str) (b : String) (p : Addr) : Bool := match PySem.W.findCls K (.ref C) tyT m with
  | some (.get (.builtin c) (.ref q) .none (.ref D)) => decide (c = b) && (decide (q = p) && decide (D = C))
  | _ => false
theorem getB_ok {K : PySem.W.Frag} {C p : Addr} {m : Str} {b : String} (h : getB K C m b p = true) : PySem.W.findCls K (.ref C) tyT m = some (.get (.builtin b) (.ref p) .none (.ref C)) := by
  unfold getB at h
  split at h
  · rename_i c q D e
    obtain ⟨h1, h2⟩ := He.ba h
    obtain ⟨h2, h3⟩ := He.ba h2
    rw [e, of_decide_eq_true h1, of_decide_eq_true h2, of_decide_eq_true h3] <;> rfl
  · cases h
inductive Fy where
  | fa (f : He.Fa)
  | fnI (x m : Str)
  | prop (x m : Str)
  | cread (x : Str)
  | cmet (x m : Str)
  | smet (x m : Str)
  | insK (x : Str)
  | kit (x : Str)
  | noList
def Fy.ok (K : PySem.W.Frag) : Fy → Bool
  | .fa f => f.ok K
  | .fnI x m => PySem.W.fnIn K (He.ma K (He.ga K x) m)
  | .prop x m => He.eqO (PySem.W.findIn K (.ref (He.ga K x)) m) (some (some (.ref (He.ma K (He.ga K x) m)))) && (He.eqO (PySem.W.specialIn K (.ref (He.ma K (He.ga K x) m)) "__get__") (some (some (.builtin "property.__get__"))) &&
      (decide (PySem.W.takesIn K (.ref (He.ma K (He.ga K x) m)) = some true) && rgB K "property" (He.ma K (He.ga K x) m)))
  | .cread x => PySem.W.readsIn K (He.ga K x) tyT && He.eqO (PySem.W.specialIn K (.ref (He.ga K x)) "__getattribute__") (some (some (.builtin "type.__getattribute__")))
  | .cmet x m => getB K (He.ga K x) m "classmethod.__get__" (He.ma K (He.ga K x) m) && (rgB K "classmethod" (He.ma K (He.ga K x) m) && PySem.W.fnIn K (rg K "classmethod" (He.ma K (He.ga K x) m)))
  | .smet x m => getB K (He.ga K x) m "staticmethod.__get__" (He.ma K (He.ga K x) m) && rgB K "staticmethod" (He.ma K (He.ga K x) m)
  | .insK x => (He.eqO (PySem.W.findIn K (.ref (He.ga K x)) "__class__") (some (some (.builtin "object.__class__"))) && (He.eqO (PySem.W.specialIn K (.builtin "object.__class__") "__get__") (some (some (.builtin "getset_descriptor.__get__"))) &&
      (decide (PySem.W.takesIn K (.builtin "object.__class__") = some true) && decide (PySem.W.mroIn K (He.ga K x) (.type "object") = some true)))) &&
      (PySem.W.selfFirst K (He.ga K x) && (decide (PySem.W.subIn K (.type "int") (.ref (He.ga K x)) = some false) && (decide (PySem.W.subIn K (.ref (He.ga K x)) (.type "int") = some false) &&
      ((PySem.W.findIn K (.type "int") (PySem.dunder (Operator.info .Mult).2)).isSome && (PySem.W.findIn K (.type "int") (dunderR (Operator.info .Mult).2)).isSome))))
  | .kit x => decide (PySem.W.kitOne K (.type "tuple") (.ref (He.ga K x)) = some false)
  | .noList => K.all fun q => !isLst q.2
section
variable {K : PySem.W.Frag} {x m : Str}
theorem fnI_ok (h : (Fy.fnI x m).ok K = true) : PySem.W.fnIn K (He.ma K (He.ga K x) m) = true := h
theorem prop_ok (h : (Fy.prop x m).ok K = true) : PropOf K (He.ga K x) m (He.ma K (He.ga K x) m) (rg K "property" (He.ma K (He.ga K x) m)) := by
  obtain ⟨h1, h⟩ := He.ba h
  obtain ⟨h2, h⟩ := He.ba h
  obtain ⟨h3, h4⟩ := He.ba h
  exact ⟨He.eqO_ok h1, He.eqO_ok h2, of_decide_eq_true h3, rg_ok h4⟩
theorem cread_ok (h : (Fy.cread x).ok K = true) : ClX.CRead K (He.ga K x) tyT := by
  obtain ⟨h1, h2⟩ := He.ba h
  exact ⟨h1, He.eqO_ok h2⟩
theorem cmet_ok (h : (Fy.cmet x m).ok K = true) : ClX.CMet K (He.ga K x) tyT m (He.ma K (He.ga K x) m) (rg K "classmethod" (He.ma K (He.ga K x) m)) := by
  obtain ⟨h1, h⟩ := He.ba h
  obtain ⟨h2, h3⟩ := He.ba h
  exact ⟨getB_ok h1, rg_ok h2, h3⟩
theorem smet_ok (h : (Fy.smet x m).ok K = true) : PySem.W.findCls K (.ref (He.ga K x)) tyT m = some (.get (.builtin "staticmethod.__get__") (.ref (He.ma K (He.ga K x) m)) .none (.ref (He.ga K x))) ∧ ∃ rest, PySem.W.recIn K (He.ma K (He.ga K x) m) "staticmethod" = some (.ref (rg K "staticmethod" (He.ma K (He.ga K x) m)) :: rest) := by
  obtain ⟨h1, h2⟩ := He.ba h
  exact ⟨getB_ok h1, rg_ok h2⟩
theorem insK_ok (h : (Fy.insK x).ok K = true) (hc : Cls K (He.ga K x)) (hn : NoAttr K (He.ga K x) "own_counts") : LdF K (He.ga K x) := by
  obtain ⟨h1, h2⟩ := He.ba h
  obtain ⟨a1, h1⟩ := He.ba h1
  obtain ⟨a2, h1⟩ := He.ba h1
  obtain ⟨a3, a4⟩ := He.ba h1
  obtain ⟨b1, h2⟩ := He.ba h2
  obtain ⟨b2, h2⟩ := He.ba h2
  obtain ⟨b3, h2⟩ := He.ba h2
  obtain ⟨b4, b5⟩ := He.ba h2
  exact ⟨⟨hc, He.eqO_ok a1, He.eqO_ok a2, of_decide_eq_true a3, of_decide_eq_true a4⟩, hn, b1, of_decide_eq_true b2, of_decide_eq_true b3, Option.isSome_iff_exists.mp b4, Option.isSome_iff_exists.mp b5⟩
theorem kit_ok (h : (Fy.kit x).ok K = true) : PySem.W.kitOne K (.type "tuple") (.ref (He.ga K x)) = some false := of_decide_eq_true h
theorem lookup_memY {a : Addr} {o : Obj} : ∀ {l : List (Addr × Obj)}, l.lookup a = some o → (a, o) ∈ l
  | [], h => by cases h
  | (b, u) :: r, h => by
    rw [List.lookup_cons] at h
    cases q : (a == b) with
    | true =>
      rw [q] at h
      have e : u = o := Option.some.inj h
      rw [beq_iff_eq.mp q, e]
      exact .head _
    | false =>
      rw [q] at h
      exact .tail _ (lookup_memY h)
theorem noList_ok (h : Fy.noList.ok K = true) {a : Addr} {o : Obj} (l : K.lookup a = some o) : o.cls ≠ .type "list" := fun e => by
  have h2 := List.all_eq_true.mp h (a, o) (lookup_memY l)
  have h3 : isLst o = true := by
    unfold isLst
    rw [e] <;> rfl
  have h4 : (!isLst o) = true := h2
  rw [h3] at h4
  cases h4
end
abbrev AlY : Type := Bool × List He.FnV
def obsY (fa : List Fy) (fn : List DX) (K : PySem.W.Frag) : AlY := ((fa.all fun f => f.ok K) && fn.all fun d => d.ok K, fn.map fun d => fnA K (d.at_ K))
def valY (fn : List DX) : AlY := (true, fn.map DX.val)
def SaysY (fa : List Fy) (fn : List DX) (K : PySem.W.Frag) : Prop := obsY fa fn K = valY fn
def obsYG (fa : List Fy) (fn : List DX) (g : Addr → Option Obj) : AlY := obsY fa fn (frY g)
def hookY (fa : List Fy) (fn : List DX) : PySem.W.Hook where
  α := AlY
  obs := fun s => obsYG fa fn s.heap.get?
  val := fun _ => valY fn
  says := fun _ h => ∃ K : PySem.W.Frag, K.In h ∧ SaysY fa fn K
  of := fun _ _ e => ⟨_, He.frG_in, e⟩
  keeps := fun _ _ _ ⟨K, hK, c⟩ k => ⟨K, PySem.W.Frag.In.keeps hK k, c⟩
theorem obsYG_eq {fa : List Fy} {fn : List DX} {g : Addr → Option Obj} {s : Shared} (h : ∀ a, g a = s.heap.get? a) : obsYG fa fn g = (hookY fa fn).obs s := by
  have e : g = s.heap.get? := funext h
  rw [e] <;> rfl
section
variable {fa : List Fy} {fn : List DX} {K : PySem.W.Frag}
theorem SaysY.fact (c : SaysY fa fn K) (i : Nat) {f : Fy} (h : fa[i]? = some f) : f.ok K = true := by
  have c1 := (He.ba (show ((fa.all fun f => f.ok K) && fn.all fun d => d.ok K) = true from congrArg (fun z : AlY => z.1) c)).1
  exact List.all_eq_true.mp c1 f (List.mem_of_getElem? h)
theorem SaysY.def_ (c : SaysY fa fn K) (i : Nat) {d : DX} (h : fn[i]? = some d) : ∃ fd, Fun K d.name d.qual d.st (d.at_ K) fd := by
  have c2 := (He.ba (show ((fa.all fun f => f.ok K) && fn.all fun d => d.ok K) = true from congrArg (fun z : AlY => z.1) c)).2
  have e : fn.map (fun d => fnA K (d.at_ K)) = fn.map DX.val := congrArg (fun z : AlY => z.2) c
  have e2 : (fn.map fun d => fnA K (d.at_ K))[i]? = (fn.map DX.val)[i]? := by rw [e]
  rw [List.getElem?_map, List.getElem?_map, h] at e2
  exact DX.fun_ (Option.some.inj e2) (List.all_eq_true.mp c2 d (List.mem_of_getElem? h))
end

def dx0 : DX := ⟨fun K => He.ga K "unit", "unit", "unit", sUn⟩
def dx1 : DX := ⟨fun K => He.ga K "first_place", "first_place", "first_place", sFP⟩
def dx2 : DX := ⟨fun K => He.ga K "least_row", "least_row", "least_row", sLR⟩
def dx3 : DX := ⟨fun K => He.ga K "plus_times", "plus_times", "plus_times", sPT⟩
def dx4 : DX := ⟨fun K => He.ga K "cleared", "cleared", "cleared", sCL⟩
def dx5 : DX := ⟨fun K => He.ga K "reduced_by", "reduced_by", "reduced_by", sRB⟩
def dx6 : DX := ⟨fun K => He.ga K "triangular", "triangular", "triangular", sTR⟩
def dx7 : DX := ⟨fun K => He.ga K "tracked", "tracked", "tracked", sTK⟩
def dx8 : DX := ⟨fun K => He.ga K "factors_of", "factors_of", "factors_of", sFO⟩
def dx9 : DX := ⟨fun K => He.ga K "is_integer", "is_integer", "is_integer", sII⟩
def dx10 : DX := ⟨fun K => He.ga K "is_word", "is_word", "is_word", sIW⟩
def dx11 : DX := ⟨fun K => He.ga K "without_zeros", "without_zeros", "without_zeros", sWZ⟩
def dx12 : DX := ⟨fun K => He.ga K "checked", "checked", "checked", sCH⟩
def dx13 : DX := ⟨fun K => He.ma K (He.ga K "Load") "__init__", "__init__", "Load.__init__", sLI⟩
def dx14 : DX := ⟨fun K => He.ga K "load_of", "load_of", "load_of", sLO⟩
def dx15 : DX := ⟨fun K => He.ma K (He.ga K "Load") "__getitem__", "__getitem__", "Load.__getitem__", sLG⟩
def dx16 : DX := ⟨fun K => He.ma K (He.ga K "Load") "__bool__", "__bool__", "Load.__bool__", sLB⟩
def dx17 : DX := ⟨fun K => rg K "property" (He.ma K (He.ga K "Load") "counts"), "counts", "Load.counts", sLC⟩
def dx18 : DX := ⟨fun K => rg K "property" (He.ma K (He.ga K "Load") "kinds"), "kinds", "Load.kinds", sLK⟩
def dx19 : DX := ⟨fun K => rg K "property" (He.ma K (He.ga K "Load") "negative"), "negative", "Load.negative", sLN⟩
def dx20 : DX := ⟨fun K => He.ma K (He.ga K "Load") "__add__", "__add__", "Load.__add__", sLA⟩
def dx21 : DX := ⟨fun K => He.ma K (He.ga K "Load") "__sub__", "__sub__", "Load.__sub__", sLS⟩
def dx22 : DX := ⟨fun K => He.ma K (He.ga K "Load") "__mul__", "__mul__", "Load.__mul__", sLM⟩
def dx23 : DX := ⟨fun K => He.ma K (He.ga K "Load") "__rmul__", "__rmul__", "Load.__rmul__", sLR'⟩
def dx24 : DX := ⟨fun K => He.ma K (He.ga K "Load") "__le__", "__le__", "Load.__le__", sLL⟩
def dx25 : DX := ⟨fun K => He.ma K (He.ga K "Load") "__eq__", "__eq__", "Load.__eq__", sLQ⟩
def dx26 : DX := ⟨fun K => rg K "classmethod" (He.ma K (He.ga K "Load") "of"), "of", "Load.of", sLF⟩
def dx27 : DX := ⟨fun K => rg K "staticmethod" (He.ma K (He.ga K "Load") "total"), "total", "Load.total", sLT⟩
def dx28 : DX := ⟨fun K => He.ga K "has_no_debts", "has_no_debts", "has_no_debts", sHD⟩
def dx29 : DX := ⟨fun K => He.ga K "is_side", "is_side", "is_side", sIS⟩
def dx30 : DX := ⟨fun K => He.ga K "kinds_of", "kinds_of", "kinds_of", sKO⟩
def dx31 : DX := ⟨fun K => He.ga K "sides", "sides", "sides", sSI⟩
def dx32 : DX := ⟨fun K => He.ga K "vector_of", "vector_of", "vector_of", sVO⟩
def dx33 : DX := ⟨fun K => He.ga K "check_debts", "check_debts", "check_debts", sCD⟩
def dx34 : DX := ⟨fun K => He.ga K "checked_pairs", "checked_pairs", "checked_pairs", sCP⟩
def dx35 : DX := ⟨fun K => He.ma K (He.ga K "Exchanges") "__init__", "__init__", "Exchanges.__init__", sEI⟩
def dx36 : DX := ⟨fun K => He.ma K (He.ga K "Exchanges") "combination", "combination", "Exchanges.combination", sCo⟩
def dx37 : DX := ⟨fun K => He.ma K (He.ga K "Exchanges") "given_side", "given_side", "Exchanges.given_side", sGS⟩
def dx38 : DX := ⟨fun K => He.ma K (He.ga K "Exchanges") "taken_side", "taken_side", "Exchanges.taken_side", sTS⟩
def dx39 : DX := ⟨fun K => He.ma K (He.ga K "Exchanges") "is_use", "is_use", "Exchanges.is_use", sIU⟩
def dx40 : DX := ⟨fun K => He.ma K (He.ga K "Exchanges") "loan", "loan", "Exchanges.loan", sLn⟩
def dx41 : DX := ⟨fun K => He.ma K (He.ga K "Exchanges") "is_loan", "is_loan", "Exchanges.is_loan", sIL⟩
def dx42 : DX := ⟨fun K => He.ga K "_law_draw", "_law_draw", "_law_draw", sDr⟩
def dx43 : DX := ⟨fun K => He.ga K "_law_pick", "_law_pick", "_law_pick", sPk⟩
def dx44 : DX := ⟨fun K => He.ga K "_law_great", "_law_great", "_law_great", sGr⟩
def dx45 : DX := ⟨fun K => He.ga K "_law_times", "_law_times", "_law_times", sTi⟩
def dx46 : DX := ⟨fun K => He.ga K "_law_lead", "_law_lead", "_law_lead", sLe⟩
def dx47 : DX := ⟨fun K => He.ga K "_law_lessened", "_law_lessened", "_law_lessened", sLs⟩
def dx48 : DX := ⟨fun K => He.ga K "_law_zeros", "_law_zeros", "_law_zeros", sZe⟩
def dx49 : DX := ⟨fun K => He.ga K "_law_is_in", "_law_is_in", "_law_is_in", sIi⟩
def dx50 : DX := ⟨fun K => He.ga K "_law_row", "_law_row", "_law_row", sRo⟩
def dx51 : DX := ⟨fun K => He.ga K "_law_rows", "_law_rows", "_law_rows", sRs⟩
def dx52 : DX := ⟨fun K => He.ga K "_law_is_int", "_law_is_int", "_law_is_int", sIn⟩
def dx53 : DX := ⟨fun K => He.ga K "_law_sides", "_law_sides", "_law_sides", sSs⟩
def dx54 : DX := ⟨fun K => He.ga K "_law_used", "_law_used", "_law_used", sUd⟩
def dx55 : DX := ⟨fun K => He.ga K "_law_pen", "_law_pen", "_law_pen", sPn⟩
def dx56 : DX := ⟨fun K => He.ga K "_law_stock", "_law_stock", "_law_stock", sSk⟩
def dx57 : DX := ⟨fun K => He.ga K "_law_called", "_law_called", "_law_called", sCa⟩
def dx58 : DX := ⟨fun K => He.ga K "_law_made", "_law_made", "_law_made", sMd⟩
def dx59 : DX := ⟨fun K => He.ga K "_law_pair", "_law_pair", "_law_pair", sPa⟩
def dx60 : DX := ⟨fun K => He.ga K "_law_words", "_law_words", "_law_words", sWo⟩
def dx61 : DX := ⟨fun K => He.ga K "_law_rules", "_law_rules", "_law_rules", sRu⟩
def dx62 : DX := ⟨fun K => He.ga K "_law_triangle", "_law_triangle", "_law_triangle", sTl⟩
def dx63 : DX := ⟨fun K => He.ga K "_law_is_equal", "_law_is_equal", "_law_is_equal", sEq⟩
def dx64 : DX := ⟨fun K => He.ga K "_law_moved", "_law_moved", "_law_moved", sMo⟩
def dx65 : DX := ⟨fun K => He.ga K "_law_is_done", "_law_is_done", "_law_is_done", sDo⟩
def dx66 : DX := ⟨fun K => He.ga K "law", "law", "law", sLw⟩
def dn0 : List DX := [dx0, dx1, dx2, dx3, dx4, dx5, dx6, dx7, dx8, dx9, dx10, dx11]
def dn1 : List DX := [dx12, dx13, dx14, dx15, dx16, dx17, dx18, dx19, dx20, dx21, dx22, dx23]
def dn2 : List DX := [dx24, dx25, dx26, dx27, dx28, dx29, dx30, dx31, dx32, dx33, dx34, dx35]
def dn3 : List DX := [dx36, dx37, dx38, dx39, dx40, dx41, dx42, dx43, dx44, dx45, dx46, dx47]
def dn4 : List DX := [dx48, dx49, dx50, dx51, dx52, dx53, dx54, dx55, dx56, dx57, dx58, dx59]
def dn5 : List DX := [dx60, dx61, dx62, dx63, dx64, dx65, dx66]
def dn : List DX := dn0 ++ dn1 ++ dn2 ++ dn3 ++ dn4 ++ dn5
def fy0 : List Fy := [.fa (.free "zip"), .fa (.free "range"), .fa (.free "len"), .fa (.free "int"), .fa (.free "abs"), .fa (.free "list"), .fa (.free "tuple"), .fa (.free "dict"), .fa (.free "set"), .fa (.free "sorted"), .fa (.free "any"), .fa (.free "all")]
def fy1 : List Fy := [.fa (.free "min"), .fa (.free "bool"), .fa (.free "isinstance"), .fa (.free "enumerate"), .fa (.free "reversed"), .fa (.free "str"), .fa (.int "MOST_LETTERS" 8), .fa (.str "LETTERS" letters), .fa (.int "MAX_PAIRS" 8), .fa (.int "MAX_KINDS" 6), .fa (.int "MAX_COUNT" 1000000), .insK "Load"]
def fy2 : List Fy := [.fa (.cls "Load"), .fa (.noat "Load" "own_counts"), .fa (.cls "Exchanges"), .fa (.noat "Exchanges" "own_pairs"), .fa (.noat "Exchanges" "own_kinds"), .fa (.noat "Exchanges" "rows"), .fa (.noat "Exchanges" "own_basis"), .fa (.noat "Exchanges" "pivots"), .fa (.glo "Unbounded"), .kit "Unbounded", .fa (.cls "Unbounded"), .fa (.glo "Load")]
def fy3 : List Fy := [.fa (.glo "unit"), .fa (.glo "first_place"), .fa (.glo "least_row"), .fa (.glo "plus_times"), .fa (.glo "cleared"), .fa (.glo "reduced_by"), .fa (.glo "triangular"), .fa (.glo "tracked"), .fa (.glo "factors_of"), .fa (.glo "is_integer"), .fa (.glo "is_word"), .fa (.glo "without_zeros")]
def fy4 : List Fy := [.fa (.glo "checked"), .fa (.mkr "Load"), .fa (.glo "load_of"), .fa (.meth "Load" "__getitem__"), .fnI "Load" "__getitem__", .fa (.meth "Load" "__bool__"), .fnI "Load" "__bool__", .prop "Load" "counts", .prop "Load" "kinds", .prop "Load" "negative", .fa (.meth "Load" "__add__"), .fnI "Load" "__add__"]
def fy5 : List Fy := [.fa (.meth "Load" "__sub__"), .fnI "Load" "__sub__", .fa (.meth "Load" "__mul__"), .fnI "Load" "__mul__", .fa (.meth "Load" "__rmul__"), .fnI "Load" "__rmul__", .fa (.meth "Load" "__le__"), .fnI "Load" "__le__", .fa (.meth "Load" "__eq__"), .fnI "Load" "__eq__", .cread "Load", .cmet "Load" "of"]
def fy6 : List Fy := [.smet "Load" "total", .fa (.glo "has_no_debts"), .fa (.glo "is_side"), .fa (.glo "kinds_of"), .fa (.glo "sides"), .fa (.glo "vector_of"), .fa (.glo "check_debts"), .fa (.glo "checked_pairs"), .fa (.mkr "Exchanges"), .fa (.glo "Exchanges"), .fa (.meth "Exchanges" "combination"), .fnI "Exchanges" "combination"]
def fy7 : List Fy := [.fa (.meth "Exchanges" "given_side"), .fnI "Exchanges" "given_side", .fa (.meth "Exchanges" "taken_side"), .fnI "Exchanges" "taken_side", .fa (.meth "Exchanges" "is_use"), .fnI "Exchanges" "is_use", .fa (.meth "Exchanges" "loan"), .fnI "Exchanges" "loan", .fa (.meth "Exchanges" "is_loan"), .fnI "Exchanges" "is_loan", .fa (.glo "_law_draw"), .fa (.glo "_law_pick")]
def fy8 : List Fy := [.fa (.glo "_law_great"), .fa (.glo "_law_times"), .fa (.glo "_law_lead"), .fa (.glo "_law_lessened"), .fa (.glo "_law_zeros"), .fa (.glo "_law_is_in"), .fa (.glo "_law_row"), .fa (.glo "_law_rows"), .fa (.glo "_law_is_int"), .fa (.glo "_law_sides"), .fa (.glo "_law_used"), .fa (.glo "_law_pen")]
def fy9 : List Fy := [.fa (.glo "_law_stock"), .fa (.glo "_law_called"), .fa (.glo "_law_made"), .fa (.glo "_law_pair"), .fa (.glo "_law_words"), .fa (.glo "_law_rules"), .fa (.glo "_law_triangle"), .fa (.glo "_law_is_equal"), .fa (.glo "_law_moved"), .fa (.glo "_law_is_done"), .fa (.glo "law"), .noList]
def fy : List Fy := fy0 ++ fy1 ++ fy2 ++ fy3 ++ fy4 ++ fy5 ++ fy6 ++ fy7 ++ fy8 ++ fy9
/-- all that the walk leans on -/
structure Facts (K : PySem.W.Frag) (mg : Str → Option Value) (C EC U : Addr) : Prop where
  T : Bt mg
  Cs : Cst mg
  Z : LdF K C
  ZE : ExF K EC
  ZU : UnF K mg U
  hL : mg "Load" = some (.ref C)
  d_Un : Dfn K mg "unit" sUn ["size", "place"]
  d_FP : Dfn K mg "first_place" sFP ["row", "width"]
  d_LR : Dfn K mg "least_row" sLR ["rows", "place"]
  d_PT : Dfn K mg "plus_times" sPT ["one", "factor", "other"]
  d_CL : Dfn K mg "cleared" sCL ["rows", "place"]
  d_RB : Dfn K mg "reduced_by" sRB ["basis", "vector", "width"]
  d_TR : Dfn K mg "triangular" sTR ["rows", "width"]
  d_TK : Dfn K mg "tracked" sTK ["rows"]
  d_FO : Dfn K mg "factors_of" sFO ["rows", "vector"]
  d_II : Dfn K mg "is_integer" sII ["value"]
  d_IW : Dfn K mg "is_word" sIW ["value"]
  d_WZ : Dfn K mg "without_zeros" sWZ ["counts"]
  d_CH : Dfn K mg "checked" sCH ["counts"]
  d_LI : IDfn K mg "Load" C "Load.__init__" sLI
  d_LO : Dfn K mg "load_of" sLO ["counts"]
  d_LG : MDfn K C "__getitem__" "Load.__getitem__" sLG ["self", "kind"]
  d_LB : MDfn K C "__bool__" "Load.__bool__" sLB ["self"]
  d_LC : PDfn K C "counts" "Load.counts" sLC
  d_LK : PDfn K C "kinds" "Load.kinds" sLK
  d_LN : PDfn K C "negative" "Load.negative" sLN
  d_LA : MDfn K C "__add__" "Load.__add__" sLA ["self", "other"]
  d_LS : MDfn K C "__sub__" "Load.__sub__" sLS ["self", "other"]
  d_LM : MDfn K C "__mul__" "Load.__mul__" sLM ["self", "number"]
  d_LRm : MDfn K C "__rmul__" "Load.__rmul__" sLR' ["self", "number"]
  d_LL : MDfn K C "__le__" "Load.__le__" sLL ["self", "other"]
  d_LQ : MDfn K C "__eq__" "Load.__eq__" sLQ ["self", "other"]
  d_LF : KDfn K C "of" "Load.of" sLF ["cls", "counts"]
  d_LT : SDfn K C "total" "Load.total" sLT
  d_HD : Dfn K mg "has_no_debts" sHD ["value"]
  d_IS : Dfn K mg "is_side" sIS ["value"]
  d_KO : Dfn K mg "kinds_of" sKO ["loads"]
  d_SI : Dfn K mg "sides" sSI ["pairs"]
  d_VO : Dfn K mg "vector_of" sVO ["kinds", "load"]
  d_CD : Dfn K mg "check_debts" sCD ["one", "other"]
  d_CP : Dfn K mg "checked_pairs" sCP ["pairs"]
  d_EI : IDfn K mg "Exchanges" EC "Exchanges.__init__" sEI
  d_Co : MDfn K EC "combination" "Exchanges.combination" sCo ["self", "one", "other"]
  d_GS : MDfn K EC "given_side" "Exchanges.given_side" sGS ["self", "use"]
  d_TS : MDfn K EC "taken_side" "Exchanges.taken_side" sTS ["self", "use"]
  d_IU : MDfn K EC "is_use" "Exchanges.is_use" sIU ["self", "value"]
  d_Ln : MDfn K EC "loan" "Exchanges.loan" sLn ["self", "one", "other"]
  d_IL : MDfn K EC "is_loan" "Exchanges.is_loan" sIL ["self", "one", "other", "value"]
  d_Dr : Dfn K mg "_law_draw" sDr ["_law_pen_here", "_law_many"]
  d_Pk : Dfn K mg "_law_pick" sPk ["_law_pen_here", "_law_options"]
  d_Gr : Dfn K mg "_law_great" sGr ["_law_pen_here", "_law_figures"]
  d_Ti : Dfn K mg "_law_times" sTi ["_law_pen_here"]
  d_Le : Dfn K mg "_law_lead" sLe ["_law_row_here"]
  d_Ls : Dfn K mg "_law_lessened" sLs ["_law_triangle_here", "_law_row_here"]
  d_Ze : Dfn K mg "_law_zeros" sZe ["_law_row_here"]
  d_Ii : Dfn K mg "_law_is_in" sIi nIi
  d_Ro : Dfn K mg "_law_row" sRo ["_law_words_here", "_law_left", "_law_right"]
  d_Rs : Dfn K mg "_law_rows" sRs ["_law_words_here", "_law_pairs"]
  d_In : Dfn K mg "_law_is_int" sIn ["_law_thing"]
  d_Ss : Dfn K mg "_law_sides" sSs ["_law_pairs"]
  d_Ud : Dfn K mg "_law_used" sUd ["_law_pairs"]
  d_Pn : Dfn K mg "_law_pen" sPn ["_law_script"]
  d_Sk : Dfn K mg "_law_stock" sSk ["_law_pen_here", "_law_words_here"]
  d_Ca : Dfn K mg "_law_called" sCa ["_law_some"]
  d_Md : Dfn K mg "_law_made" sMd ["_law_pairs"]
  d_Pa : Dfn K mg "_law_pair" sPa ["_law_pen_here", "_law_words_here"]
  d_Wo : Dfn K mg "_law_words" sWo ["_law_pen_here", "_law_many"]
  d_Ru : Dfn K mg "_law_rules" sRu ["_law_pen_here", "_law_most_kinds", "_law_most_pairs"]
  d_Tl : Dfn K mg "_law_triangle" sTl ["_law_rows_here", "_law_width"]
  d_Eq : Dfn K mg "_law_is_equal" sEq ["_law_rules_here", "_law_left", "_law_right"]
  d_Mo : Dfn K mg "_law_moved" sMo ["_law_pen_here", "_law_rules_here", "_law_given", "_law_words_here"]
  d_Do : Dfn K mg "_law_is_done" sDo ["_law_rules_here", "_law_one", "_law_other", "_law_told"]
  d_Lw : Dfn K mg "law" sLw ["_law_script"]
section
variable {K : PySem.W.Frag} {h : Heap} {mg : Str → Option Value}
abbrev cL (K : PySem.W.Frag) : Addr := He.ga K "Load"
abbrev cE (K : PySem.W.Frag) : Addr := He.ga K "Exchanges"
abbrev cU (K : PySem.W.Frag) : Addr := He.ga K "Unbounded"
theorem f_d_Un (X : K.In h) (G : h.Ns mainGlobals mg) (c : SaysY fy dn K) : Dfn K mg "unit" sUn ["size", "place"] := by
  obtain ⟨fd, F⟩ := c.def_ 0 (d := dx0) rfl
  exact ⟨_, fd, F, He.glo_ok X G (c.fact 36 (f := .fa (.glo "unit")) rfl), F.binds fun _ _ _ _ _ _ us hl => match us, hl with | [_, _], _ => rfl⟩
theorem f_d_FP (X : K.In h) (G : h.Ns mainGlobals mg) (c : SaysY fy dn K) : Dfn K mg "first_place" sFP ["row", "width"] := by
  obtain ⟨fd, F⟩ := c.def_ 1 (d := dx1) rfl
  exact ⟨_, fd, F, He.glo_ok X G (c.fact 37 (f := .fa (.glo "first_place")) rfl), F.binds fun _ _ _ _ _ _ us hl => match us, hl with | [_, _], _ => rfl⟩
theorem f_d_LR (X : K.In h) (G : h.Ns mainGlobals mg) (c : SaysY fy dn K) : Dfn K mg "least_row" sLR ["rows", "place"] := by
  obtain ⟨fd, F⟩ := c.def_ 2 (d := dx2) rfl
  exact ⟨_, fd, F, He.glo_ok X G (c.fact 38 (f := .fa (.glo "least_row")) rfl), F.binds fun _ _ _ _ _ _ us hl => match us, hl with | [_, _], _ => rfl⟩
theorem f_d_PT (X : K.In h) (G : h.Ns mainGlobals mg) (c : SaysY fy dn K) : Dfn K mg "plus_times" sPT ["one", "factor", "other"] := by
  obtain ⟨fd, F⟩ := c.def_ 3 (d := dx3) rfl
  exact ⟨_, fd, F, He.glo_ok X G (c.fact 39 (f := .fa (.glo "plus_times")) rfl), F.binds fun _ _ _ _ _ _ us hl => match us, hl with | [_, _, _], _ => rfl⟩
theorem f_d_CL (X : K.In h) (G : h.Ns mainGlobals mg) (c : SaysY fy dn K) : Dfn K mg "cleared" sCL ["rows", "place"] := by
  obtain ⟨fd, F⟩ := c.def_ 4 (d := dx4) rfl
  exact ⟨_, fd, F, He.glo_ok X G (c.fact 40 (f := .fa (.glo "cleared")) rfl), F.binds fun _ _ _ _ _ _ us hl => match us, hl with | [_, _], _ => rfl⟩
theorem f_d_RB (X : K.In h) (G : h.Ns mainGlobals mg) (c : SaysY fy dn K) : Dfn K mg "reduced_by" sRB ["basis", "vector", "width"] := by
  obtain ⟨fd, F⟩ := c.def_ 5 (d := dx5) rfl
  exact ⟨_, fd, F, He.glo_ok X G (c.fact 41 (f := .fa (.glo "reduced_by")) rfl), F.binds fun _ _ _ _ _ _ us hl => match us, hl with | [_, _, _], _ => rfl⟩
theorem f_d_TR (X : K.In h) (G : h.Ns mainGlobals mg) (c : SaysY fy dn K) : Dfn K mg "triangular" sTR ["rows", "width"] := by
  obtain ⟨fd, F⟩ := c.def_ 6 (d := dx6) rfl
  exact ⟨_, fd, F, He.glo_ok X G (c.fact 42 (f := .fa (.glo "triangular")) rfl), F.binds fun _ _ _ _ _ _ us hl => match us, hl with | [_, _], _ => rfl⟩
theorem f_d_TK (X : K.In h) (G : h.Ns mainGlobals mg) (c : SaysY fy dn K) : Dfn K mg "tracked" sTK ["rows"] := by
  obtain ⟨fd, F⟩ := c.def_ 7 (d := dx7) rfl
  exact ⟨_, fd, F, He.glo_ok X G (c.fact 43 (f := .fa (.glo "tracked")) rfl), F.binds fun _ _ _ _ _ _ us hl => match us, hl with | [_], _ => rfl⟩
theorem f_d_FO (X : K.In h) (G : h.Ns mainGlobals mg) (c : SaysY fy dn K) : Dfn K mg "factors_of" sFO ["rows", "vector"] := by
  obtain ⟨fd, F⟩ := c.def_ 8 (d := dx8) rfl
  exact ⟨_, fd, F, He.glo_ok X G (c.fact 44 (f := .fa (.glo "factors_of")) rfl), F.binds fun _ _ _ _ _ _ us hl => match us, hl with | [_, _], _ => rfl⟩
theorem f_d_II (X : K.In h) (G : h.Ns mainGlobals mg) (c : SaysY fy dn K) : Dfn K mg "is_integer" sII ["value"] := by
  obtain ⟨fd, F⟩ := c.def_ 9 (d := dx9) rfl
  exact ⟨_, fd, F, He.glo_ok X G (c.fact 45 (f := .fa (.glo "is_integer")) rfl), F.binds fun _ _ _ _ _ _ us hl => match us, hl with | [_], _ => rfl⟩
theorem f_d_IW (X : K.In h) (G : h.Ns mainGlobals mg) (c : SaysY fy dn K) : Dfn K mg "is_word" sIW ["value"] := by
  obtain ⟨fd, F⟩ := c.def_ 10 (d := dx10) rfl
  exact ⟨_, fd, F, He.glo_ok X G (c.fact 46 (f := .fa (.glo "is_word")) rfl), F.binds fun _ _ _ _ _ _ us hl => match us, hl with | [_], _ => rfl⟩
theorem f_d_WZ (X : K.In h) (G : h.Ns mainGlobals mg) (c : SaysY fy dn K) : Dfn K mg "without_zeros" sWZ ["counts"] := by
  obtain ⟨fd, F⟩ := c.def_ 11 (d := dx11) rfl
  exact ⟨_, fd, F, He.glo_ok X G (c.fact 47 (f := .fa (.glo "without_zeros")) rfl), F.binds fun _ _ _ _ _ _ us hl => match us, hl with | [_], _ => rfl⟩
theorem f_d_CH (X : K.In h) (G : h.Ns mainGlobals mg) (c : SaysY fy dn K) : Dfn K mg "checked" sCH ["counts"] := by
  obtain ⟨fd, F⟩ := c.def_ 12 (d := dx12) rfl
  exact ⟨_, fd, F, He.glo_ok X G (c.fact 48 (f := .fa (.glo "checked")) rfl), F.binds fun _ _ _ _ _ _ us hl => match us, hl with | [_], _ => rfl⟩
theorem f_d_LI (X : K.In h) (G : h.Ns mainGlobals mg) (c : SaysY fy dn K) : IDfn K mg "Load" (cL K) "Load.__init__" sLI := by
  obtain ⟨fd, F⟩ := c.def_ 13 (d := dx13) rfl
  exact ⟨_, fd, F, He.mkr_ok (c.fact 49 (f := .fa (.mkr "Load")) rfl), He.glo_ok X G (c.fact 35 (f := .fa (.glo "Load")) rfl)⟩
theorem f_d_LO (X : K.In h) (G : h.Ns mainGlobals mg) (c : SaysY fy dn K) : Dfn K mg "load_of" sLO ["counts"] := by
  obtain ⟨fd, F⟩ := c.def_ 14 (d := dx14) rfl
  exact ⟨_, fd, F, He.glo_ok X G (c.fact 50 (f := .fa (.glo "load_of")) rfl), F.binds fun _ _ _ _ _ _ us hl => match us, hl with | [_], _ => rfl⟩
theorem f_d_LG (X : K.In h) (G : h.Ns mainGlobals mg) (c : SaysY fy dn K) : MDfn K (cL K) "__getitem__" "Load.__getitem__" sLG ["self", "kind"] := by
  obtain ⟨fd, F⟩ := c.def_ 15 (d := dx15) rfl
  exact ⟨_, fd, F, He.meth_ok (c.fact 51 (f := .fa (.meth "Load" "__getitem__")) rfl), (F.binds fun _ _ _ _ _ _ us hl => match us, hl with | [_, _], _ => rfl), fnI_ok (c.fact 52 (f := .fnI "Load" "__getitem__") rfl)⟩
theorem f_d_LB (X : K.In h) (G : h.Ns mainGlobals mg) (c : SaysY fy dn K) : MDfn K (cL K) "__bool__" "Load.__bool__" sLB ["self"] := by
  obtain ⟨fd, F⟩ := c.def_ 16 (d := dx16) rfl
  exact ⟨_, fd, F, He.meth_ok (c.fact 53 (f := .fa (.meth "Load" "__bool__")) rfl), (F.binds fun _ _ _ _ _ _ us hl => match us, hl with | [_], _ => rfl), fnI_ok (c.fact 54 (f := .fnI "Load" "__bool__") rfl)⟩
theorem f_d_LC (X : K.In h) (G : h.Ns mainGlobals mg) (c : SaysY fy dn K) : PDfn K (cL K) "counts" "Load.counts" sLC := by
  obtain ⟨fd, F⟩ := c.def_ 17 (d := dx17) rfl
  exact ⟨_, _, fd, F, prop_ok (c.fact 55 (f := .prop "Load" "counts") rfl), F.binds fun _ _ _ _ _ _ us hl => match us, hl with | [_], _ => rfl⟩
theorem f_d_LK (X : K.In h) (G : h.Ns mainGlobals mg) (c : SaysY fy dn K) : PDfn K (cL K) "kinds" "Load.kinds" sLK := by
  obtain ⟨fd, F⟩ := c.def_ 18 (d := dx18) rfl
  exact ⟨_, _, fd, F, prop_ok (c.fact 56 (f := .prop "Load" "kinds") rfl), F.binds fun _ _ _ _ _ _ us hl => match us, hl with | [_], _ => rfl⟩
theorem f_d_LN (X : K.In h) (G : h.Ns mainGlobals mg) (c : SaysY fy dn K) : PDfn K (cL K) "negative" "Load.negative" sLN := by
  obtain ⟨fd, F⟩ := c.def_ 19 (d := dx19) rfl
  exact ⟨_, _, fd, F, prop_ok (c.fact 57 (f := .prop "Load" "negative") rfl), F.binds fun _ _ _ _ _ _ us hl => match us, hl with | [_], _ => rfl⟩
theorem f_d_LA (X : K.In h) (G : h.Ns mainGlobals mg) (c : SaysY fy dn K) : MDfn K (cL K) "__add__" "Load.__add__" sLA ["self", "other"] := by
  obtain ⟨fd, F⟩ := c.def_ 20 (d := dx20) rfl
  exact ⟨_, fd, F, He.meth_ok (c.fact 58 (f := .fa (.meth "Load" "__add__")) rfl), (F.binds fun _ _ _ _ _ _ us hl => match us, hl with | [_, _], _ => rfl), fnI_ok (c.fact 59 (f := .fnI "Load" "__add__") rfl)⟩
theorem f_d_LS (X : K.In h) (G : h.Ns mainGlobals mg) (c : SaysY fy dn K) : MDfn K (cL K) "__sub__" "Load.__sub__" sLS ["self", "other"] := by
  obtain ⟨fd, F⟩ := c.def_ 21 (d := dx21) rfl
  exact ⟨_, fd, F, He.meth_ok (c.fact 60 (f := .fa (.meth "Load" "__sub__")) rfl), (F.binds fun _ _ _ _ _ _ us hl => match us, hl with | [_, _], _ => rfl), fnI_ok (c.fact 61 (f := .fnI "Load" "__sub__") rfl)⟩
theorem f_d_LM (X : K.In h) (G : h.Ns mainGlobals mg) (c : SaysY fy dn K) : MDfn K (cL K) "__mul__" "Load.__mul__" sLM ["self", "number"] := by
  obtain ⟨fd, F⟩ := c.def_ 22 (d := dx22) rfl
  exact ⟨_, fd, F, He.meth_ok (c.fact 62 (f := .fa (.meth "Load" "__mul__")) rfl), (F.binds fun _ _ _ _ _ _ us hl => match us, hl with | [_, _], _ => rfl), fnI_ok (c.fact 63 (f := .fnI "Load" "__mul__") rfl)⟩
theorem f_d_LRm (X : K.In h) (G : h.Ns mainGlobals mg) (c : SaysY fy dn K) : MDfn K (cL K) "__rmul__" "Load.__rmul__" sLR' ["self", "number"] := by
  obtain ⟨fd, F⟩ := c.def_ 23 (d := dx23) rfl
  exact ⟨_, fd, F, He.meth_ok (c.fact 64 (f := .fa (.meth "Load" "__rmul__")) rfl), (F.binds fun _ _ _ _ _ _ us hl => match us, hl with | [_, _], _ => rfl), fnI_ok (c.fact 65 (f := .fnI "Load" "__rmul__") rfl)⟩
theorem f_d_LL (X : K.In h) (G : h.Ns mainGlobals mg) (c : SaysY fy dn K) : MDfn K (cL K) "__le__" "Load.__le__" sLL ["self", "other"] := by
  obtain ⟨fd, F⟩ := c.def_ 24 (d := dx24) rfl
  exact ⟨_, fd, F, He.meth_ok (c.fact 66 (f := .fa (.meth "Load" "__le__")) rfl), (F.binds fun _ _ _ _ _ _ us hl => match us, hl with | [_, _], _ => rfl), fnI_ok (c.fact 67 (f := .fnI "Load" "__le__") rfl)⟩
theorem f_d_LQ (X : K.In h) (G : h.Ns mainGlobals mg) (c : SaysY fy dn K) : MDfn K (cL K) "__eq__" "Load.__eq__" sLQ ["self", "other"] := by
  obtain ⟨fd, F⟩ := c.def_ 25 (d := dx25) rfl
  exact ⟨_, fd, F, He.meth_ok (c.fact 68 (f := .fa (.meth "Load" "__eq__")) rfl), (F.binds fun _ _ _ _ _ _ us hl => match us, hl with | [_, _], _ => rfl), fnI_ok (c.fact 69 (f := .fnI "Load" "__eq__") rfl)⟩
theorem f_d_LF (X : K.In h) (G : h.Ns mainGlobals mg) (c : SaysY fy dn K) : KDfn K (cL K) "of" "Load.of" sLF ["cls", "counts"] := by
  obtain ⟨fd, F⟩ := c.def_ 26 (d := dx26) rfl
  exact ⟨_, _, _, fd, F, cread_ok (c.fact 70 (f := .cread "Load") rfl), cmet_ok (c.fact 71 (f := .cmet "Load" "of") rfl), F.binds fun _ _ _ _ _ _ us hl => match us, hl with | [_, _], _ => rfl⟩
theorem f_d_LT (X : K.In h) (G : h.Ns mainGlobals mg) (c : SaysY fy dn K) : SDfn K (cL K) "total" "Load.total" sLT := by
  obtain ⟨fd, F⟩ := c.def_ 27 (d := dx27) rfl
  exact ⟨_, _, _, fd, F, cread_ok (c.fact 70 (f := .cread "Load") rfl), (smet_ok (c.fact 72 (f := .smet "Load" "total") rfl)).1, (smet_ok (c.fact 72 (f := .smet "Load" "total") rfl)).2⟩
theorem f_d_HD (X : K.In h) (G : h.Ns mainGlobals mg) (c : SaysY fy dn K) : Dfn K mg "has_no_debts" sHD ["value"] := by
  obtain ⟨fd, F⟩ := c.def_ 28 (d := dx28) rfl
  exact ⟨_, fd, F, He.glo_ok X G (c.fact 73 (f := .fa (.glo "has_no_debts")) rfl), F.binds fun _ _ _ _ _ _ us hl => match us, hl with | [_], _ => rfl⟩
theorem f_d_IS (X : K.In h) (G : h.Ns mainGlobals mg) (c : SaysY fy dn K) : Dfn K mg "is_side" sIS ["value"] := by
  obtain ⟨fd, F⟩ := c.def_ 29 (d := dx29) rfl
  exact ⟨_, fd, F, He.glo_ok X G (c.fact 74 (f := .fa (.glo "is_side")) rfl), F.binds fun _ _ _ _ _ _ us hl => match us, hl with | [_], _ => rfl⟩
theorem f_d_KO (X : K.In h) (G : h.Ns mainGlobals mg) (c : SaysY fy dn K) : Dfn K mg "kinds_of" sKO ["loads"] := by
  obtain ⟨fd, F⟩ := c.def_ 30 (d := dx30) rfl
  exact ⟨_, fd, F, He.glo_ok X G (c.fact 75 (f := .fa (.glo "kinds_of")) rfl), F.binds fun _ _ _ _ _ _ us hl => match us, hl with | [_], _ => rfl⟩
theorem f_d_SI (X : K.In h) (G : h.Ns mainGlobals mg) (c : SaysY fy dn K) : Dfn K mg "sides" sSI ["pairs"] := by
  obtain ⟨fd, F⟩ := c.def_ 31 (d := dx31) rfl
  exact ⟨_, fd, F, He.glo_ok X G (c.fact 76 (f := .fa (.glo "sides")) rfl), F.binds fun _ _ _ _ _ _ us hl => match us, hl with | [_], _ => rfl⟩
theorem f_d_VO (X : K.In h) (G : h.Ns mainGlobals mg) (c : SaysY fy dn K) : Dfn K mg "vector_of" sVO ["kinds", "load"] := by
  obtain ⟨fd, F⟩ := c.def_ 32 (d := dx32) rfl
  exact ⟨_, fd, F, He.glo_ok X G (c.fact 77 (f := .fa (.glo "vector_of")) rfl), F.binds fun _ _ _ _ _ _ us hl => match us, hl with | [_, _], _ => rfl⟩
theorem f_d_CD (X : K.In h) (G : h.Ns mainGlobals mg) (c : SaysY fy dn K) : Dfn K mg "check_debts" sCD ["one", "other"] := by
  obtain ⟨fd, F⟩ := c.def_ 33 (d := dx33) rfl
  exact ⟨_, fd, F, He.glo_ok X G (c.fact 78 (f := .fa (.glo "check_debts")) rfl), F.binds fun _ _ _ _ _ _ us hl => match us, hl with | [_, _], _ => rfl⟩
theorem f_d_CP (X : K.In h) (G : h.Ns mainGlobals mg) (c : SaysY fy dn K) : Dfn K mg "checked_pairs" sCP ["pairs"] := by
  obtain ⟨fd, F⟩ := c.def_ 34 (d := dx34) rfl
  exact ⟨_, fd, F, He.glo_ok X G (c.fact 79 (f := .fa (.glo "checked_pairs")) rfl), F.binds fun _ _ _ _ _ _ us hl => match us, hl with | [_], _ => rfl⟩
theorem f_d_EI (X : K.In h) (G : h.Ns mainGlobals mg) (c : SaysY fy dn K) : IDfn K mg "Exchanges" (cE K) "Exchanges.__init__" sEI := by
  obtain ⟨fd, F⟩ := c.def_ 35 (d := dx35) rfl
  exact ⟨_, fd, F, He.mkr_ok (c.fact 80 (f := .fa (.mkr "Exchanges")) rfl), He.glo_ok X G (c.fact 81 (f := .fa (.glo "Exchanges")) rfl)⟩
theorem f_d_Co (X : K.In h) (G : h.Ns mainGlobals mg) (c : SaysY fy dn K) : MDfn K (cE K) "combination" "Exchanges.combination" sCo ["self", "one", "other"] := by
  obtain ⟨fd, F⟩ := c.def_ 36 (d := dx36) rfl
  exact ⟨_, fd, F, He.meth_ok (c.fact 82 (f := .fa (.meth "Exchanges" "combination")) rfl), (F.binds fun _ _ _ _ _ _ us hl => match us, hl with | [_, _, _], _ => rfl), fnI_ok (c.fact 83 (f := .fnI "Exchanges" "combination") rfl)⟩
theorem f_d_GS (X : K.In h) (G : h.Ns mainGlobals mg) (c : SaysY fy dn K) : MDfn K (cE K) "given_side" "Exchanges.given_side" sGS ["self", "use"] := by
  obtain ⟨fd, F⟩ := c.def_ 37 (d := dx37) rfl
  exact ⟨_, fd, F, He.meth_ok (c.fact 84 (f := .fa (.meth "Exchanges" "given_side")) rfl), (F.binds fun _ _ _ _ _ _ us hl => match us, hl with | [_, _], _ => rfl), fnI_ok (c.fact 85 (f := .fnI "Exchanges" "given_side") rfl)⟩
theorem f_d_TS (X : K.In h) (G : h.Ns mainGlobals mg) (c : SaysY fy dn K) : MDfn K (cE K) "taken_side" "Exchanges.taken_side" sTS ["self", "use"] := by
  obtain ⟨fd, F⟩ := c.def_ 38 (d := dx38) rfl
  exact ⟨_, fd, F, He.meth_ok (c.fact 86 (f := .fa (.meth "Exchanges" "taken_side")) rfl), (F.binds fun _ _ _ _ _ _ us hl => match us, hl with | [_, _], _ => rfl), fnI_ok (c.fact 87 (f := .fnI "Exchanges" "taken_side") rfl)⟩
theorem f_d_IU (X : K.In h) (G : h.Ns mainGlobals mg) (c : SaysY fy dn K) : MDfn K (cE K) "is_use" "Exchanges.is_use" sIU ["self", "value"] := by
  obtain ⟨fd, F⟩ := c.def_ 39 (d := dx39) rfl
  exact ⟨_, fd, F, He.meth_ok (c.fact 88 (f := .fa (.meth "Exchanges" "is_use")) rfl), (F.binds fun _ _ _ _ _ _ us hl => match us, hl with | [_, _], _ => rfl), fnI_ok (c.fact 89 (f := .fnI "Exchanges" "is_use") rfl)⟩
theorem f_d_Ln (X : K.In h) (G : h.Ns mainGlobals mg) (c : SaysY fy dn K) : MDfn K (cE K) "loan" "Exchanges.loan" sLn ["self", "one", "other"] := by
  obtain ⟨fd, F⟩ := c.def_ 40 (d := dx40) rfl
  exact ⟨_, fd, F, He.meth_ok (c.fact 90 (f := .fa (.meth "Exchanges" "loan")) rfl), (F.binds fun _ _ _ _ _ _ us hl => match us, hl with | [_, _, _], _ => rfl), fnI_ok (c.fact 91 (f := .fnI "Exchanges" "loan") rfl)⟩
theorem f_d_IL (X : K.In h) (G : h.Ns mainGlobals mg) (c : SaysY fy dn K) : MDfn K (cE K) "is_loan" "Exchanges.is_loan" sIL ["self", "one", "other", "value"] := by
  obtain ⟨fd, F⟩ := c.def_ 41 (d := dx41) rfl
  exact ⟨_, fd, F, He.meth_ok (c.fact 92 (f := .fa (.meth "Exchanges" "is_loan")) rfl), (F.binds fun _ _ _ _ _ _ us hl => match us, hl with | [_, _, _, _], _ => rfl), fnI_ok (c.fact 93 (f := .fnI "Exchanges" "is_loan") rfl)⟩
theorem f_d_Dr (X : K.In h) (G : h.Ns mainGlobals mg) (c : SaysY fy dn K) : Dfn K mg "_law_draw" sDr ["_law_pen_here", "_law_many"] := by
  obtain ⟨fd, F⟩ := c.def_ 42 (d := dx42) rfl
  exact ⟨_, fd, F, He.glo_ok X G (c.fact 94 (f := .fa (.glo "_law_draw")) rfl), F.binds fun _ _ _ _ _ _ us hl => match us, hl with | [_, _], _ => rfl⟩
theorem f_d_Pk (X : K.In h) (G : h.Ns mainGlobals mg) (c : SaysY fy dn K) : Dfn K mg "_law_pick" sPk ["_law_pen_here", "_law_options"] := by
  obtain ⟨fd, F⟩ := c.def_ 43 (d := dx43) rfl
  exact ⟨_, fd, F, He.glo_ok X G (c.fact 95 (f := .fa (.glo "_law_pick")) rfl), F.binds fun _ _ _ _ _ _ us hl => match us, hl with | [_, _], _ => rfl⟩
theorem f_d_Gr (X : K.In h) (G : h.Ns mainGlobals mg) (c : SaysY fy dn K) : Dfn K mg "_law_great" sGr ["_law_pen_here", "_law_figures"] := by
  obtain ⟨fd, F⟩ := c.def_ 44 (d := dx44) rfl
  exact ⟨_, fd, F, He.glo_ok X G (c.fact 96 (f := .fa (.glo "_law_great")) rfl), F.binds fun _ _ _ _ _ _ us hl => match us, hl with | [_, _], _ => rfl⟩
theorem f_d_Ti (X : K.In h) (G : h.Ns mainGlobals mg) (c : SaysY fy dn K) : Dfn K mg "_law_times" sTi ["_law_pen_here"] := by
  obtain ⟨fd, F⟩ := c.def_ 45 (d := dx45) rfl
  exact ⟨_, fd, F, He.glo_ok X G (c.fact 97 (f := .fa (.glo "_law_times")) rfl), F.binds fun _ _ _ _ _ _ us hl => match us, hl with | [_], _ => rfl⟩
theorem f_d_Le (X : K.In h) (G : h.Ns mainGlobals mg) (c : SaysY fy dn K) : Dfn K mg "_law_lead" sLe ["_law_row_here"] := by
  obtain ⟨fd, F⟩ := c.def_ 46 (d := dx46) rfl
  exact ⟨_, fd, F, He.glo_ok X G (c.fact 98 (f := .fa (.glo "_law_lead")) rfl), F.binds fun _ _ _ _ _ _ us hl => match us, hl with | [_], _ => rfl⟩
theorem f_d_Ls (X : K.In h) (G : h.Ns mainGlobals mg) (c : SaysY fy dn K) : Dfn K mg "_law_lessened" sLs ["_law_triangle_here", "_law_row_here"] := by
  obtain ⟨fd, F⟩ := c.def_ 47 (d := dx47) rfl
  exact ⟨_, fd, F, He.glo_ok X G (c.fact 99 (f := .fa (.glo "_law_lessened")) rfl), F.binds fun _ _ _ _ _ _ us hl => match us, hl with | [_, _], _ => rfl⟩
theorem f_d_Ze (X : K.In h) (G : h.Ns mainGlobals mg) (c : SaysY fy dn K) : Dfn K mg "_law_zeros" sZe ["_law_row_here"] := by
  obtain ⟨fd, F⟩ := c.def_ 48 (d := dx48) rfl
  exact ⟨_, fd, F, He.glo_ok X G (c.fact 100 (f := .fa (.glo "_law_zeros")) rfl), F.binds fun _ _ _ _ _ _ us hl => match us, hl with | [_], _ => rfl⟩
theorem f_d_Ii (X : K.In h) (G : h.Ns mainGlobals mg) (c : SaysY fy dn K) : Dfn K mg "_law_is_in" sIi nIi := by
  obtain ⟨fd, F⟩ := c.def_ 49 (d := dx49) rfl
  exact ⟨_, fd, F, He.glo_ok X G (c.fact 101 (f := .fa (.glo "_law_is_in")) rfl), F.binds fun _ _ _ _ _ _ us hl => match us, hl with | [_, _], _ => rfl⟩
theorem f_d_Ro (X : K.In h) (G : h.Ns mainGlobals mg) (c : SaysY fy dn K) : Dfn K mg "_law_row" sRo ["_law_words_here", "_law_left", "_law_right"] := by
  obtain ⟨fd, F⟩ := c.def_ 50 (d := dx50) rfl
  exact ⟨_, fd, F, He.glo_ok X G (c.fact 102 (f := .fa (.glo "_law_row")) rfl), F.binds fun _ _ _ _ _ _ us hl => match us, hl with | [_, _, _], _ => rfl⟩
theorem f_d_Rs (X : K.In h) (G : h.Ns mainGlobals mg) (c : SaysY fy dn K) : Dfn K mg "_law_rows" sRs ["_law_words_here", "_law_pairs"] := by
  obtain ⟨fd, F⟩ := c.def_ 51 (d := dx51) rfl
  exact ⟨_, fd, F, He.glo_ok X G (c.fact 103 (f := .fa (.glo "_law_rows")) rfl), F.binds fun _ _ _ _ _ _ us hl => match us, hl with | [_, _], _ => rfl⟩
theorem f_d_In (X : K.In h) (G : h.Ns mainGlobals mg) (c : SaysY fy dn K) : Dfn K mg "_law_is_int" sIn ["_law_thing"] := by
  obtain ⟨fd, F⟩ := c.def_ 52 (d := dx52) rfl
  exact ⟨_, fd, F, He.glo_ok X G (c.fact 104 (f := .fa (.glo "_law_is_int")) rfl), F.binds fun _ _ _ _ _ _ us hl => match us, hl with | [_], _ => rfl⟩
theorem f_d_Ss (X : K.In h) (G : h.Ns mainGlobals mg) (c : SaysY fy dn K) : Dfn K mg "_law_sides" sSs ["_law_pairs"] := by
  obtain ⟨fd, F⟩ := c.def_ 53 (d := dx53) rfl
  exact ⟨_, fd, F, He.glo_ok X G (c.fact 105 (f := .fa (.glo "_law_sides")) rfl), F.binds fun _ _ _ _ _ _ us hl => match us, hl with | [_], _ => rfl⟩
theorem f_d_Ud (X : K.In h) (G : h.Ns mainGlobals mg) (c : SaysY fy dn K) : Dfn K mg "_law_used" sUd ["_law_pairs"] := by
  obtain ⟨fd, F⟩ := c.def_ 54 (d := dx54) rfl
  exact ⟨_, fd, F, He.glo_ok X G (c.fact 106 (f := .fa (.glo "_law_used")) rfl), F.binds fun _ _ _ _ _ _ us hl => match us, hl with | [_], _ => rfl⟩
theorem f_d_Pn (X : K.In h) (G : h.Ns mainGlobals mg) (c : SaysY fy dn K) : Dfn K mg "_law_pen" sPn ["_law_script"] := by
  obtain ⟨fd, F⟩ := c.def_ 55 (d := dx55) rfl
  exact ⟨_, fd, F, He.glo_ok X G (c.fact 107 (f := .fa (.glo "_law_pen")) rfl), F.binds fun _ _ _ _ _ _ us hl => match us, hl with | [_], _ => rfl⟩
theorem f_d_Sk (X : K.In h) (G : h.Ns mainGlobals mg) (c : SaysY fy dn K) : Dfn K mg "_law_stock" sSk ["_law_pen_here", "_law_words_here"] := by
  obtain ⟨fd, F⟩ := c.def_ 56 (d := dx56) rfl
  exact ⟨_, fd, F, He.glo_ok X G (c.fact 108 (f := .fa (.glo "_law_stock")) rfl), F.binds fun _ _ _ _ _ _ us hl => match us, hl with | [_, _], _ => rfl⟩
theorem f_d_Ca (X : K.In h) (G : h.Ns mainGlobals mg) (c : SaysY fy dn K) : Dfn K mg "_law_called" sCa ["_law_some"] := by
  obtain ⟨fd, F⟩ := c.def_ 57 (d := dx57) rfl
  exact ⟨_, fd, F, He.glo_ok X G (c.fact 109 (f := .fa (.glo "_law_called")) rfl), F.binds fun _ _ _ _ _ _ us hl => match us, hl with | [_], _ => rfl⟩
theorem f_d_Md (X : K.In h) (G : h.Ns mainGlobals mg) (c : SaysY fy dn K) : Dfn K mg "_law_made" sMd ["_law_pairs"] := by
  obtain ⟨fd, F⟩ := c.def_ 58 (d := dx58) rfl
  exact ⟨_, fd, F, He.glo_ok X G (c.fact 110 (f := .fa (.glo "_law_made")) rfl), F.binds fun _ _ _ _ _ _ us hl => match us, hl with | [_], _ => rfl⟩
theorem f_d_Pa (X : K.In h) (G : h.Ns mainGlobals mg) (c : SaysY fy dn K) : Dfn K mg "_law_pair" sPa ["_law_pen_here", "_law_words_here"] := by
  obtain ⟨fd, F⟩ := c.def_ 59 (d := dx59) rfl
  exact ⟨_, fd, F, He.glo_ok X G (c.fact 111 (f := .fa (.glo "_law_pair")) rfl), F.binds fun _ _ _ _ _ _ us hl => match us, hl with | [_, _], _ => rfl⟩
theorem f_d_Wo (X : K.In h) (G : h.Ns mainGlobals mg) (c : SaysY fy dn K) : Dfn K mg "_law_words" sWo ["_law_pen_here", "_law_many"] := by
  obtain ⟨fd, F⟩ := c.def_ 60 (d := dx60) rfl
  exact ⟨_, fd, F, He.glo_ok X G (c.fact 112 (f := .fa (.glo "_law_words")) rfl), F.binds fun _ _ _ _ _ _ us hl => match us, hl with | [_, _], _ => rfl⟩
theorem f_d_Ru (X : K.In h) (G : h.Ns mainGlobals mg) (c : SaysY fy dn K) : Dfn K mg "_law_rules" sRu ["_law_pen_here", "_law_most_kinds", "_law_most_pairs"] := by
  obtain ⟨fd, F⟩ := c.def_ 61 (d := dx61) rfl
  exact ⟨_, fd, F, He.glo_ok X G (c.fact 113 (f := .fa (.glo "_law_rules")) rfl), F.binds fun _ _ _ _ _ _ us hl => match us, hl with | [_, _, _], _ => rfl⟩
theorem f_d_Tl (X : K.In h) (G : h.Ns mainGlobals mg) (c : SaysY fy dn K) : Dfn K mg "_law_triangle" sTl ["_law_rows_here", "_law_width"] := by
  obtain ⟨fd, F⟩ := c.def_ 62 (d := dx62) rfl
  exact ⟨_, fd, F, He.glo_ok X G (c.fact 114 (f := .fa (.glo "_law_triangle")) rfl), F.binds fun _ _ _ _ _ _ us hl => match us, hl with | [_, _], _ => rfl⟩
theorem f_d_Eq (X : K.In h) (G : h.Ns mainGlobals mg) (c : SaysY fy dn K) : Dfn K mg "_law_is_equal" sEq ["_law_rules_here", "_law_left", "_law_right"] := by
  obtain ⟨fd, F⟩ := c.def_ 63 (d := dx63) rfl
  exact ⟨_, fd, F, He.glo_ok X G (c.fact 115 (f := .fa (.glo "_law_is_equal")) rfl), F.binds fun _ _ _ _ _ _ us hl => match us, hl with | [_, _, _], _ => rfl⟩
theorem f_d_Mo (X : K.In h) (G : h.Ns mainGlobals mg) (c : SaysY fy dn K) : Dfn K mg "_law_moved" sMo ["_law_pen_here", "_law_rules_here", "_law_given", "_law_words_here"] := by
  obtain ⟨fd, F⟩ := c.def_ 64 (d := dx64) rfl
  exact ⟨_, fd, F, He.glo_ok X G (c.fact 116 (f := .fa (.glo "_law_moved")) rfl), F.binds fun _ _ _ _ _ _ us hl => match us, hl with | [_, _, _, _], _ => rfl⟩
theorem f_d_Do (X : K.In h) (G : h.Ns mainGlobals mg) (c : SaysY fy dn K) : Dfn K mg "_law_is_done" sDo ["_law_rules_here", "_law_one", "_law_other", "_law_told"] := by
  obtain ⟨fd, F⟩ := c.def_ 65 (d := dx65) rfl
  exact ⟨_, fd, F, He.glo_ok X G (c.fact 117 (f := .fa (.glo "_law_is_done")) rfl), F.binds fun _ _ _ _ _ _ us hl => match us, hl with | [_, _, _, _], _ => rfl⟩
theorem f_d_Lw (X : K.In h) (G : h.Ns mainGlobals mg) (c : SaysY fy dn K) : Dfn K mg "law" sLw ["_law_script"] := by
  obtain ⟨fd, F⟩ := c.def_ 66 (d := dx66) rfl
  exact ⟨_, fd, F, He.glo_ok X G (c.fact 118 (f := .fa (.glo "law")) rfl), F.binds fun _ _ _ _ _ _ us hl => match us, hl with | [_], _ => rfl⟩
theorem facts_of (X : K.In h) (G : h.Ns mainGlobals mg) (c : SaysY fy dn K) : Facts K mg (cL K) (cE K) (cU K) := {
  T := ⟨He.free_ok X G (c.fact 0 (f := .fa (.free "zip")) rfl), He.free_ok X G (c.fact 1 (f := .fa (.free "range")) rfl), He.free_ok X G (c.fact 2 (f := .fa (.free "len")) rfl), He.free_ok X G (c.fact 3 (f := .fa (.free "int")) rfl), He.free_ok X G (c.fact 4 (f := .fa (.free "abs")) rfl), He.free_ok X G (c.fact 5 (f := .fa (.free "list")) rfl), He.free_ok X G (c.fact 6 (f := .fa (.free "tuple")) rfl), He.free_ok X G (c.fact 7 (f := .fa (.free "dict")) rfl), He.free_ok X G (c.fact 8 (f := .fa (.free "set")) rfl), He.free_ok X G (c.fact 9 (f := .fa (.free "sorted")) rfl), He.free_ok X G (c.fact 10 (f := .fa (.free "any")) rfl), He.free_ok X G (c.fact 11 (f := .fa (.free "all")) rfl), He.free_ok X G (c.fact 12 (f := .fa (.free "min")) rfl), He.free_ok X G (c.fact 13 (f := .fa (.free "bool")) rfl), He.free_ok X G (c.fact 14 (f := .fa (.free "isinstance")) rfl), He.free_ok X G (c.fact 15 (f := .fa (.free "enumerate")) rfl), He.free_ok X G (c.fact 16 (f := .fa (.free "reversed")) rfl), He.free_ok X G (c.fact 17 (f := .fa (.free "str")) rfl)⟩
  Cs := ⟨He.int_ok X G (c.fact 18 (f := .fa (.int "MOST_LETTERS" 8)) rfl), He.str_ok X G (c.fact 19 (f := .fa (.str "LETTERS" letters)) rfl), He.int_ok X G (c.fact 20 (f := .fa (.int "MAX_PAIRS" 8)) rfl), He.int_ok X G (c.fact 21 (f := .fa (.int "MAX_KINDS" 6)) rfl), He.int_ok X G (c.fact 22 (f := .fa (.int "MAX_COUNT" 1000000)) rfl)⟩
  Z := insK_ok (c.fact 23 (f := .insK "Load") rfl) (He.cls_ok (c.fact 24 (f := .fa (.cls "Load")) rfl)) (He.noat_ok (c.fact 25 (f := .fa (.noat "Load" "own_counts")) rfl))
  ZE := ⟨He.cls_ok (c.fact 26 (f := .fa (.cls "Exchanges")) rfl), He.noat_ok (c.fact 27 (f := .fa (.noat "Exchanges" "own_pairs")) rfl), He.noat_ok (c.fact 28 (f := .fa (.noat "Exchanges" "own_kinds")) rfl), He.noat_ok (c.fact 29 (f := .fa (.noat "Exchanges" "rows")) rfl), He.noat_ok (c.fact 30 (f := .fa (.noat "Exchanges" "own_basis")) rfl), He.noat_ok (c.fact 31 (f := .fa (.noat "Exchanges" "pivots")) rfl)⟩
  ZU := ⟨He.glo_ok X G (c.fact 32 (f := .fa (.glo "Unbounded")) rfl), kit_ok (c.fact 33 (f := .kit "Unbounded") rfl), He.cls_ok (c.fact 34 (f := .fa (.cls "Unbounded")) rfl)⟩
  hL := He.glo_ok X G (c.fact 35 (f := .fa (.glo "Load")) rfl)
  d_Un := f_d_Un X G c
  d_FP := f_d_FP X G c
  d_LR := f_d_LR X G c
  d_PT := f_d_PT X G c
  d_CL := f_d_CL X G c
  d_RB := f_d_RB X G c
  d_TR := f_d_TR X G c
  d_TK := f_d_TK X G c
  d_FO := f_d_FO X G c
  d_II := f_d_II X G c
  d_IW := f_d_IW X G c
  d_WZ := f_d_WZ X G c
  d_CH := f_d_CH X G c
  d_LI := f_d_LI X G c
  d_LO := f_d_LO X G c
  d_LG := f_d_LG X G c
  d_LB := f_d_LB X G c
  d_LC := f_d_LC X G c
  d_LK := f_d_LK X G c
  d_LN := f_d_LN X G c
  d_LA := f_d_LA X G c
  d_LS := f_d_LS X G c
  d_LM := f_d_LM X G c
  d_LRm := f_d_LRm X G c
  d_LL := f_d_LL X G c
  d_LQ := f_d_LQ X G c
  d_LF := f_d_LF X G c
  d_LT := f_d_LT X G c
  d_HD := f_d_HD X G c
  d_IS := f_d_IS X G c
  d_KO := f_d_KO X G c
  d_SI := f_d_SI X G c
  d_VO := f_d_VO X G c
  d_CD := f_d_CD X G c
  d_CP := f_d_CP X G c
  d_EI := f_d_EI X G c
  d_Co := f_d_Co X G c
  d_GS := f_d_GS X G c
  d_TS := f_d_TS X G c
  d_IU := f_d_IU X G c
  d_Ln := f_d_Ln X G c
  d_IL := f_d_IL X G c
  d_Dr := f_d_Dr X G c
  d_Pk := f_d_Pk X G c
  d_Gr := f_d_Gr X G c
  d_Ti := f_d_Ti X G c
  d_Le := f_d_Le X G c
  d_Ls := f_d_Ls X G c
  d_Ze := f_d_Ze X G c
  d_Ii := f_d_Ii X G c
  d_Ro := f_d_Ro X G c
  d_Rs := f_d_Rs X G c
  d_In := f_d_In X G c
  d_Ss := f_d_Ss X G c
  d_Ud := f_d_Ud X G c
  d_Pn := f_d_Pn X G c
  d_Sk := f_d_Sk X G c
  d_Ca := f_d_Ca X G c
  d_Md := f_d_Md X G c
  d_Pa := f_d_Pa X G c
  d_Wo := f_d_Wo X G c
  d_Ru := f_d_Ru X G c
  d_Tl := f_d_Tl X G c
  d_Eq := f_d_Eq X G c
  d_Mo := f_d_Mo X G c
  d_Do := f_d_Do X G c
  d_Lw := f_d_Lw X G c
}
theorem noList_of (c : SaysY fy dn K) {a : Addr} {o : Obj} (l : K.lookup a = some o) : o.cls ≠ .type "list" := noList_ok (c.fact 119 (f := .noList) rfl) l
end
section
variable {P : Program} {w : World} {K : PySem.W.Frag} {mg : Str → Option Value} {base : Heap} {C EC U : Addr}
theorem callees (F : Facts K mg C EC U) : Callees P w K mg base C EC := by
  have h_Un : Cal P w K mg base 1 "unit" ["size", "place"] spUn := c_Un F.d_Un F.T
  have h_FP : Cal P w K mg base 1 "first_place" ["row", "width"] spFP := c_FP F.d_FP F.T
  have h_LR : Cal P w K mg base 1 "least_row" ["rows", "place"] spLR := c_LR F.d_LR F.T
  have h_PT : Cal P w K mg base 1 "plus_times" ["one", "factor", "other"] spPT := c_PT F.d_PT F.T
  have h_CL : Cal P w K mg base 2 "cleared" ["rows", "place"] spCL := c_CL F.d_CL F.T h_LR h_PT
  have h_RB : Cal P w K mg base 2 "reduced_by" ["basis", "vector", "width"] spRB := c_RB F.d_RB F.T h_FP h_PT
  have h_TR : Cal P w K mg base 3 "triangular" ["rows", "width"] spTR := c_TR F.d_TR F.T h_CL h_RB
  have h_TK : Cal P w K mg base 2 "tracked" ["rows"] spTK := c_TK F.d_TK F.T h_Un
  have h_FO : Cal P w K mg base 4 "factors_of" ["rows", "vector"] spFO := c_FO F.d_FO F.T h_TR h_TK h_RB
  have h_II : Cal P w K mg base 1 "is_integer" ["value"] spII := c_II F.d_II F.T
  have h_IW : Cal P w K mg base 1 "is_word" ["value"] spIW := c_IW F.d_IW F.T F.Cs
  have h_WZ : Cal P w K mg base 1 "without_zeros" ["counts"] spWZ := c_WZ F.d_WZ F.T
  have h_CH : Cal P w K mg base 2 "checked" ["counts"] spCH := c_CH F.d_CH F.T h_II h_IW h_WZ
  have h_LI : ICal P w K mg base 3 "Load" C (spLI C) := c_LI F.d_LI F.T F.Z h_CH
  have h_LO : Cal P w K mg base 5 "load_of" ["counts"] (spLO C) := c_LO F.d_LO h_WZ h_LI
  have h_LG : MCal P w K mg base 1 C "__getitem__" ["self", "kind"] (spLG C) := c_LG F.d_LG F.Z
  have h_LB : MCal P w K mg base 1 C "__bool__" ["self"] (spLB C) := c_LB F.d_LB F.Z F.T
  have h_LC : PCal P w K mg base 1 C "counts" (spLC C) := c_LC F.d_LC F.Z F.T
  have h_LK : PCal P w K mg base 1 C "kinds" (spLK C) := c_LK F.d_LK F.Z F.T
  have h_LN : PCal P w K mg base 6 C "negative" (spLN C) := c_LN F.d_LN F.Z h_LO
  have h_LA : MCal P w K mg base 6 C "__add__" ["self", "other"] (spLP C (· + ·)) := c_LA F.d_LA F.Z h_LO h_LG
  have h_LS : MCal P w K mg base 6 C "__sub__" ["self", "other"] (spLP C (· - ·)) := c_LS F.d_LS F.Z h_LO h_LG
  have h_LM : MCal P w K mg base 6 C "__mul__" ["self", "number"] (spLM C) := c_LM F.d_LM F.Z h_LO
  have h_LRm : MCal P w K mg base 7 C "__rmul__" ["self", "number"] (spLM C) := c_LRm F.d_LRm F.Z h_LM
  have h_LL : MCal P w K mg base 3 C "__le__" ["self", "other"] (spLL C) := c_LL F.d_LL F.Z F.T h_LG
  have h_LQ : MCal P w K mg base 1 C "__eq__" ["self", "other"] (spLQ C) := c_LQ F.d_LQ F.Z F.T F.hL
  have h_LF : KCal P w K mg base 5 C "of" (spLF C) := c_LF F.d_LF F.T h_CH h_LI
  have h_LT : SCal P w K mg base 7 C "total" (spLT C) := c_LT F.d_LT F.Z h_LI h_LA
  have h_HD : Cal P w K mg base 8 "has_no_debts" ["value"] (spHD C) := c_HD F.d_HD F.T F.Z F.hL h_LN h_LB
  have h_IS : Cal P w K mg base 9 "is_side" ["value"] (spIS C) := c_IS F.d_IS F.T F.Cs F.Z h_HD h_LC
  have h_KO : Cal P w K mg base 3 "kinds_of" ["loads"] (spKO C) := c_KO F.d_KO F.T F.Z h_LK
  have h_SI : Cal P w K mg base 1 "sides" ["pairs"] (spSI C) := c_SI F.d_SI
  have h_VO : Cal P w K mg base 3 "vector_of" ["kinds", "load"] (spVO C) := c_VO F.d_VO h_LG
  have h_CD : Cal P w K mg base 8 "check_debts" ["one", "other"] (spCD C) := c_CD F.d_CD F.Z h_LN h_LB
  have h_CP : Cal P w K mg base 10 "checked_pairs" ["pairs"] (spCP C) := c_CP F.d_CP F.T F.Cs F.Z F.ZU h_IS h_SI h_KO
  have h_EI : ICal P w K mg base 11 "Exchanges" EC (spEI EC C) := c_EI F.d_EI F.T F.Z F.ZE h_CP h_KO h_SI h_VO h_LS h_TR h_FP
  have h_Co : MCal P w K mg base 7 EC "combination" ["self", "one", "other"] (spCo EC C) := c_Co F.d_Co F.T F.Z F.ZE h_LS h_LK h_VO h_FO
  have h_GS : MCal P w K mg base 8 EC "given_side" ["self", "use"] (spGS EC C gsd) := c_GS F.d_GS F.T F.Z F.ZE h_LM h_LRm
  have h_TS : MCal P w K mg base 8 EC "taken_side" ["self", "use"] (spGS EC C tsd) := c_TS F.d_TS F.T F.Z F.ZE h_LM h_LRm
  have h_IU : MCal P w K mg base 2 EC "is_use" ["self", "value"] (spIU EC C) := c_IU F.d_IU F.T F.ZE h_II
  have h_Ln : MCal P w K mg base 9 EC "loan" ["self", "one", "other"] (spLn EC C) := c_Ln F.d_Ln F.T F.Z F.ZE F.hL h_CD h_Co h_GS h_LT
  have h_IL : MCal P w K mg base 9 EC "is_loan" ["self", "one", "other", "value"] (spIL EC C) := c_IL F.d_IL F.T F.Z F.ZE h_CD h_HD h_IU h_GS h_TS h_LA h_LS h_LL h_LQ
  have h_Dr : Cal P w K mg base 1 "_law_draw" ["_law_pen_here", "_law_many"] spDr := c_Dr F.d_Dr F.T
  have h_Pk : Cal P w K mg base 2 "_law_pick" ["_law_pen_here", "_law_options"] spPk := c_Pk F.d_Pk F.T h_Dr
  have h_PkS : Cal P w K mg base 2 "_law_pick" ["_law_pen_here", "_law_options"] spPkS := c_PkS F.d_Pk F.T h_Dr
  have h_Gr : Cal P w K mg base 2 "_law_great" ["_law_pen_here", "_law_figures"] spGr := c_Gr F.d_Gr F.T h_Dr
  have h_Ti : Cal P w K mg base 3 "_law_times" ["_law_pen_here"] spTi := c_Ti F.d_Ti F.T h_Dr h_Gr
  have h_Le : Cal P w K mg base 1 "_law_lead" ["_law_row_here"] spLe := c_Le F.d_Le F.T
  have h_Ls : Cal P w K mg base 2 "_law_lessened" ["_law_triangle_here", "_law_row_here"] spLs := c_Ls F.d_Ls F.T h_Le
  have h_Ze : Cal P w K mg base 1 "_law_zeros" ["_law_row_here"] spZe := c_Ze F.d_Ze
  have h_Ii : Cal P w K mg base 3 "_law_is_in" nIi spIi := c_Ii F.d_Ii h_Ze h_Ls
  have h_Ro : Cal P w K mg base 1 "_law_row" ["_law_words_here", "_law_left", "_law_right"] spRo := c_Ro F.d_Ro
  have h_Rs : Cal P w K mg base 2 "_law_rows" ["_law_words_here", "_law_pairs"] spRs := c_Rs F.d_Rs h_Ro
  have h_In : Cal P w K mg base 1 "_law_is_int" ["_law_thing"] spII := c_In F.d_In F.T
  have h_Ss : Cal P w K mg base 1 "_law_sides" ["_law_pairs"] spSs := c_Ss F.d_Ss
  have h_Ud : Cal P w K mg base 2 "_law_used" ["_law_pairs"] spUd := c_Ud F.d_Ud F.T h_Ss
  have h_Pn : Cal P w K mg base 1 "_law_pen" ["_law_script"] spPn := c_Pn F.d_Pn F.T
  have h_Sk : Cal P w K mg base 4 "_law_stock" ["_law_pen_here", "_law_words_here"] spSk := c_Sk F.d_Sk F.T h_Dr h_Ti
  have h_Ca : Cal P w K mg base 13 "_law_called" ["_law_some"] (spCa EC C) := c_Ca F.d_Ca F.T h_EI
  have h_Md : Cal P w K mg base 14 "_law_made" ["_law_pairs"] (spMd EC C) := c_Md F.d_Md F.hL h_LF h_Ca
  have h_Pa : Cal P w K mg base 4 "_law_pair" ["_law_pen_here", "_law_words_here"] spPa := c_Pa F.d_Pa F.T h_Dr h_Ti h_Pk
  have h_Wo : Cal P w K mg base 3 "_law_words" ["_law_pen_here", "_law_many"] spWo := c_Wo F.d_Wo F.T h_Dr h_Pk h_PkS
  have h_Ru : Cal P w K mg base 5 "_law_rules" ["_law_pen_here", "_law_most_kinds", "_law_most_pairs"] spRu := c_Ru F.d_Ru F.T h_Dr h_Wo h_Pa
  have h_Tl : Cal P w K mg base 3 "_law_triangle" ["_law_rows_here", "_law_width"] spTl := c_Tl F.d_Tl F.T h_Ls
  have h_Eq : Cal P w K mg base 4 "_law_is_equal" ["_law_rules_here", "_law_left", "_law_right"] spEq := c_Eq F.d_Eq F.T h_Ud h_Tl h_Rs h_Ro h_Ii
  have h_Mo : Cal P w K mg base 4 "_law_moved" ["_law_pen_here", "_law_rules_here", "_law_given", "_law_words_here"] spMo := c_Mo F.d_Mo F.T h_Dr h_Ti h_Pk
  have h_Do : Cal P w K mg base 7 "_law_is_done" ["_law_rules_here", "_law_one", "_law_other", "_law_told"] (spDo C) := c_Do F.d_Do F.T F.Z F.hL h_LC h_LK h_LG h_LA h_LF h_In
  have h_LIa : ICalK P w K mg base 3 "Load" C "a" (spLIa C) := c_LIa F.d_LI F.T F.Z h_CH
  exact ⟨F.T, F.Z, F.ZE, F.hL, h_Pn, h_Ru, h_Md, h_Sk, h_Wo, h_Mo, h_Eq, h_Do, h_LF, h_LC, h_Ln, h_IL, h_EI, h_LI, h_LIa⟩
end
end Y
/-! text HX -/
set_option Elab.async false
set_option linter.all false
set_option maxRecDepth 100000
set_option maxHeartbeats 0
namespace Y
open PySem PySem.Spec PyProof.Rows L2
abbrev R : PySem.W.OpenRow := PySem.W.OpenLaw.row PySem.Challenge.rw_crateround_k29_whole_loans
abbrev hk : PySem.W.Hook := hookY fy dn
def ob (s : PySem.W.SharedT) : AlY := obsYG fy dn (HandSHeadRun.getT s)
theorem ob_eq (s : PySem.W.SharedT) : ob s = hk.obs s.abs := obsYG_eq (HandSHeadRun.getT_eq s)
def names0 : List PySem.Str := ["_wall", "__name__", "MOST_LETTERS", "LETTERS", "is_integer", "is_word", "InvalidLoad", "InvalidText", "InvalidPair", "TooMany", "common_divisor", "plus_times"]
def names1 : List PySem.Str := ["unit", "first_place", "least_row", "cleared", "triangular", "reduced_by", "tracked", "factors_of", "common_rows", "DIGITS", "MOST_DIGITS", "NOTHING"]
def names2 : List PySem.Str := ["text_of", "can_begin", "kind_end", "first_digit", "count_end", "counts_in", "without_zeros", "checked", "Load", "load_of", "MAX_PAIRS", "MAX_KINDS"]
def names3 : List PySem.Str := ["MAX_COUNT", "has_no_debts", "is_side", "kinds_of", "sides", "vector_of", "load_with", "pair_of", "Unbounded", "checked_pairs", "check_debts", "Exchanges"]
def names4 : List PySem.Str := ["free_rules", "_law_pen", "_law_draw", "_law_pick", "_law_words", "_law_great", "_law_times", "_law_pair", "_law_rules", "_law_made", "_law_used", "_law_sides"]
def names5 : List PySem.Str := ["_law_row", "_law_rows", "_law_triangle", "_law_lead", "_law_lessened", "_law_stock", "_law_is_int", "_law_called", "_law_zeros", "_law_is_in", "_law_is_equal", "_law_moved"]
def names6 : List PySem.Str := ["_law_is_done"]
def names : List PySem.Str := names0 ++ names1 ++ names2 ++ names3 ++ names4 ++ names5 ++ names6
theorem run (w : World) : HandSHeadRun.RunEq R (PySem.W.view R.prog [80]) hk ob 30000 names w := by
  intro os
  kernel_rfl
end Y
/-! text ZY -/
set_option Elab.async false
set_option linter.all false
set_option maxRecDepth 100000
set_option maxHeartbeats 0
namespace Y
open PySem PySem.Spec PyProof.Rows L2
section
variable {K : PySem.W.Frag} {f : Addr} {fd : FuncData}
theorem bind_Lw (F : Fun K "law" "law" sLw f fd) (s : Shared) (u : Value) : BindsTo s fd ⟨[u], []⟩ [("_law_script", u)] := by
  obtain ⟨oc, od, kV, doc, pm, an, cdv, ct, osl, rfl, lk, hcd⟩ := F.ex
  exact .of_eq rfl
theorem sp_Lw (c : SaysY fy dn K) (H : Hp) (a : Addr) (ns : List Int) (hl : ns.length ≤ 63) (hO : Only H) (hS : SqL K H a (ns.map V.int)) : spLw [.ref a] H (fun v _ => v = .bl true) fun _ _ _ => False := by
  refine ⟨ns, H, hl, ⟨fun b u e => .inl ⟨List.not_mem_nil, e⟩, fun b hb => absurd hb List.not_mem_nil⟩, ⟨?_, trivial⟩, MO.nil, fun v H' H0' _ _ p => p⟩
  rcases hS with (h | ⟨o, h⟩) | ⟨o, its, n, hk, hc, _⟩
  · rcases hO a with e | ⟨o, xs, e⟩
    · rw [e] at h
      cases h
    · rw [e] at h
      cases h
  · exact ⟨a, o, rfl, h⟩
  · exact absurd hc (noList_of c hk)
end
end Y
open PySem PySem.W PySem.Calls PyProof.Rows
theorem PySem.Challenge.cw_crateround_k29_whole_loans_holds : PySem.Challenge.rw_crateround_k29_whole_loans.Holds := by
  w_on; o_law
  refine HandSHeadRun.head_any (r := OpenLaw.row PySem.Challenge.rw_crateround_k29_whole_loans) (q := view (OpenLaw.row PySem.Challenge.rw_crateround_k29_whole_loans).prog [80]) (H := Y.hk) (ob := Y.ob) (M := 30000) (loose := Y.names) (d := HandSHeadRun.topDef (OpenLaw.row PySem.Challenge.rw_crateround_k29_whole_loans).prog 80) (kwd := []) Y.ob_eq
    (by kernel_rfl) (fun s => by kernel_rfl) Y.run (by kernel_rfl) (by kernel_rfl) (by kernel_rfl) (by rfl) (by first | assumption | decide +kernel) (by decide +kernel) ⟨rfl, rfl, rfl, rfl, rfl, by decide +kernel⟩ ?hw ?hc
  case hw => w_witness2
  case hc =>
    refine L2.walk_ofE (l := PySem.Challenge.rw_crateround_k29_whole_loans) (n := 63) (k := 15) (x := "_law_script") (CX := L2.CX0) rfl (by decide) (by kernel_rfl) ⟨rfl, by decide, by decide⟩ ?F (fun _ _ _ _ z => z)
    intro w mg fa h X G hmg0
    obtain ⟨K, KX, c⟩ := X
    have hmg : mg ("law" : PySem.Str) = some (.ref fa) := by
      have e : (HandSHeadRun.topDef (OpenLaw.row PySem.Challenge.rw_crateround_k29_whole_loans).prog 80).name = ("law" : PySem.Str) := by kernel_rfl
      rw [← e]
      exact hmg0
    have Fs := Y.facts_of KX G c
    obtain ⟨f, fd, FL, hf, _⟩ := Fs.d_Lw.ex
    have e := hf.symm.trans hmg
    cases e
    exact ⟨K, fd, Y.spLw, KX, Y.bind_Lw FL, fun H a ns hl hO hS => Y.sp_Lw c H a ns hl hO hS, fun base _ _ => Y.k_Lw FL (Y.callees Fs)⟩
