import PyProof.Rows.All
import HandS.ForMost
import HandS.Walk
import HandS.Wide
import HandS.WideBits
import HandS.TupAny
import HandS.SortInts
import HandS.IsInst
import HandS.Conv
import PyProof.ReprRoads
import PyProof.SumWalkG
import PyProof.ListOps
import HandS.Style
import HandS.Defaults
import HandS.HeadEnd
import HandS.Rev
import KE.GoesEnum
import KE.GoesMore
import HandS.Head0
import HandS.Head1
import HandS.Head2
import HandS.HeadHook1
import HandS.HeadHook2
import PyProof.ReprLen
import PySem.Challenge.RW_pastvotes_k81_whole_brings_and_chains
set_option Elab.async false
set_option linter.all false
set_option maxRecDepth 100000
/-! Oe0: data trees with owned and shared lists, and how values of the hand layer stand for them. -/
namespace OE
open PySem PySem.Spec PyProof.Rows L2

inductive D where
  | hole | non | bl (b : Bool) | int (i : Int) | str (x : Str) | tup (xs : List D) | lst (o : Bool) (xs : List D) | scr (ns : List Int)
deriving Inhabited

/-- a list that stands in the written part -/
def KL (K : PySem.W.Frag) (a : Addr) (vs : List V) : Prop :=
  ∃ (o : Obj) (its : Array Value) (n : Nat), K.lookup a = some o ∧ o.cls = .type "list" ∧ o.dict = none ∧ o.data = .seq its n ∧ its.size ≤ sizeLine ∧ Vals vs its.toList

/-- v stands for d; A: the addresses that shared lists must not have; O: the addresses of the owned lists within, from the left -/
def Rep (K : PySem.W.Frag) (A : Addr → Prop) (H : Hp) : D → V → List Addr → Prop
  | .hole, _, O => O = []
  | .non, v, O => v = .non ∧ O = []
  | .bl b, v, O => v = .bl b ∧ O = []
  | .int i, v, O => v = .int i ∧ O = []
  | .str x, v, O => v = .str x ∧ O = []
  | .tup ds, v, O => ∃ a vs, v = .ref a ∧ SqT K H a vs ∧ ds.length ≤ sizeLine ∧ RepL K A H ds vs O
  | .scr ns, v, O => O = [] ∧ ∃ a, v = .ref a ∧ ((∃ o, H a = some (.frz o (.lst (ns.map V.int)))) ∨ KL K a (ns.map V.int))
  | .lst false ds, v, O => O = [] ∧ ∃ a vs, v = .ref a ∧ (H a = some (.lst vs) ∧ ¬ A a) ∧ ds.length ≤ sizeLine ∧ RepL K A H ds vs []
  | .lst true ds, v, O => ∃ a vs O', O = a :: O' ∧ v = .ref a ∧ H a = some (.lst vs) ∧ ds.length ≤ sizeLine ∧ RepL K A H ds vs O'
where RepL (K : PySem.W.Frag) (A : Addr → Prop) (H : Hp) : List D → List V → List Addr → Prop
  | [], vs, O => vs = [] ∧ O = []
  | d :: ds, vs, O => ∃ v vs' O1 O2, vs = v :: vs' ∧ O = O1 ++ O2 ∧ Rep K A H d v O1 ∧ RepL K A H ds vs' O2
abbrev RepL := @Rep.RepL

def share : D → D
  | .tup xs => .tup (shareL xs)
  | .lst _ xs => .lst false (shareL xs)
  | d => d
where shareL : List D → List D
  | [] => []
  | d :: ds => share d :: shareL ds
/-- no list within is owned -/
def noOwn : D → Bool
  | .tup xs => noOwnL xs
  | .lst o xs => !o && noOwnL xs
  | _ => true
where noOwnL : List D → Bool
  | [] => true
  | d :: ds => noOwn d && noOwnL ds

theorem shareL_map (ds : List D) : share.shareL ds = ds.map share := by
  induction ds with
  | nil => rfl
  | cons d ds ih => simp [share.shareL, ih]
theorem noOwnL_all (ds : List D) : noOwn.noOwnL ds = ds.all noOwn := by
  induction ds with
  | nil => rfl
  | cons d ds ih => simp [noOwn.noOwnL, ih]

section
variable {K : PySem.W.Frag} {A A' : Addr → Prop} {H H' : Hp}
theorem Rd.get {a : Addr} {u : HO} (r : Rd H a u) : ∃ o, H a = some o ∧ (o = u ∨ ∃ b, o = .frz b u) := by
  rcases r with r | ⟨o, r⟩
  · exact ⟨_, r, .inl rfl⟩
  · exact ⟨_, r, .inr ⟨_, rfl⟩⟩
theorem Rd.keep {a : Addr} {u : HO} (r : Rd H a u) (k : ∀ o, H a = some o → (o = u ∨ ∃ b, o = .frz b u) → H' a = some o) : Rd H' a u := by
  rcases r with r | ⟨o, r⟩
  · exact .inl (k _ r (.inl rfl))
  · exact .inr ⟨o, k _ r (.inr ⟨_, rfl⟩)⟩
/-- the heap changes, the addresses to be avoided change -/
theorem Rep.move : ∀ (d : D) {v : V} {O : List Addr}, Rep K A H d v O → (∀ a o, H a = some o → (a ∈ O ∨ ¬ A a ∨ (∀ xs, o ≠ .lst xs)) → H' a = some o) → (∀ a, ¬ A a → H a ≠ none → ¬ A' a) → Rep K A' H' d v O
  | .hole, v, O, r, hk, hA => by simpa [Rep] using r
  | .non, v, O, r, hk, hA => by simpa [Rep] using r
  | .bl b, v, O, r, hk, hA => by simpa [Rep] using r
  | .int i, v, O, r, hk, hA => by simpa [Rep] using r
  | .str x, v, O, r, hk, hA => by simpa [Rep] using r
  | .scr ns, v, O, r, hk, hA => by
    simp only [Rep] at r ⊢
    obtain ⟨e, a, e1, h⟩ := r
    refine ⟨e, a, e1, h.imp_left fun ⟨o, q⟩ => ⟨o, hk a _ q (.inr (.inr fun xs z => by cases z))⟩⟩
  | .tup ds, v, O, r, hk, hA => by
    simp only [Rep] at r ⊢
    obtain ⟨a, vs, e, ht, hl, r⟩ := r
    refine ⟨a, vs, e, ?_, hl, moveL ds r hk hA⟩
    rcases ht with ht | ht
    · refine .inl (OE.Rd.keep ht fun o e1 e2 => hk a o e1 (.inr (.inr ?_)))
      rcases e2 with rfl | ⟨b, rfl⟩ <;> (intro xs q; cases q)
    · exact .inr ht
  | .lst false ds, v, O, r, hk, hA => by
    simp only [Rep] at r ⊢
    obtain ⟨rfl, a, vs, e, hq, hl, r⟩ := r
    obtain ⟨hq, hn⟩ := hq
    exact ⟨rfl, a, vs, e, ⟨hk a _ hq (.inr (.inl hn)), hA a hn (by rw [hq]; simp)⟩, hl, moveL ds r hk hA⟩
  | .lst true ds, v, O, r, hk, hA => by
    simp only [Rep] at r ⊢
    obtain ⟨a, vs, O', rfl, e, hq, hl, r⟩ := r
    refine ⟨a, vs, O', rfl, e, hk a _ hq (.inl (by simp)), hl, moveL ds r (fun b o e1 e2 => hk b o e1 ?_) hA⟩
    rcases e2 with e2 | e2
    · exact .inl (List.mem_cons_of_mem _ e2)
    · exact .inr e2
where moveL : ∀ (ds : List D) {vs : List V} {O : List Addr}, RepL K A H ds vs O → (∀ a o, H a = some o → (a ∈ O ∨ ¬ A a ∨ (∀ xs, o ≠ .lst xs)) → H' a = some o) → (∀ a, ¬ A a → H a ≠ none → ¬ A' a) → RepL K A' H' ds vs O
  | [], vs, O, r, hk, hA => by simpa [Rep.RepL] using r
  | d :: ds, vs, O, r, hk, hA => by
    simp only [Rep.RepL] at r ⊢
    obtain ⟨v, vs', O1, O2, e1, rfl, r1, r2⟩ := r
    refine ⟨v, vs', O1, O2, e1, rfl, Rep.move d r1 (fun b o e1 e2 => hk b o e1 ?_) hA, moveL ds r2 (fun b o e1 e2 => hk b o e1 ?_) hA⟩
    · rcases e2 with e2 | e2
      · exact .inl (List.mem_append_left _ e2)
      · exact .inr e2
    · rcases e2 with e2 | e2
      · exact .inl (List.mem_append_right _ e2)
      · exact .inr e2
abbrev RepL.move := @Rep.move.moveL
theorem Rep.own : ∀ (d : D) {v : V} {O : List Addr}, Rep K A H d v O → ∀ a ∈ O, ∃ xs, H a = some (.lst xs)
  | .hole, v, O, r => by simp only [Rep] at r; subst r; intro a h; cases h
  | .non, v, O, r => by simp only [Rep] at r; obtain ⟨_, rfl⟩ := r; intro a h; cases h
  | .bl b, v, O, r => by simp only [Rep] at r; obtain ⟨_, rfl⟩ := r; intro a h; cases h
  | .int i, v, O, r => by simp only [Rep] at r; obtain ⟨_, rfl⟩ := r; intro a h; cases h
  | .str x, v, O, r => by simp only [Rep] at r; obtain ⟨_, rfl⟩ := r; intro a h; cases h
  | .scr x, v, O, r => by simp only [Rep] at r; obtain ⟨rfl, _⟩ := r; intro a h; cases h
  | .tup ds, v, O, r => by
    simp only [Rep] at r
    obtain ⟨a, vs, e, ht, hl, r⟩ := r
    exact ownL ds r
  | .lst false ds, v, O, r => by
    simp only [Rep] at r
    obtain ⟨rfl, _⟩ := r
    intro a h; cases h
  | .lst true ds, v, O, r => by
    simp only [Rep] at r
    obtain ⟨a, vs, O', rfl, e, hq, hl, r⟩ := r
    intro b hb
    rcases List.mem_cons.mp hb with rfl | hb
    · exact ⟨_, hq⟩
    · exact ownL ds r b hb
where ownL : ∀ (ds : List D) {vs : List V} {O : List Addr}, RepL K A H ds vs O → ∀ a ∈ O, ∃ xs, H a = some (.lst xs)
  | [], vs, O, r => by simp only [Rep.RepL] at r; obtain ⟨_, rfl⟩ := r; intro a h; cases h
  | d :: ds, vs, O, r => by
    simp only [Rep.RepL] at r
    obtain ⟨v, vs', O1, O2, e1, rfl, r1, r2⟩ := r
    intro a h
    rcases List.mem_append.mp h with h | h
    · exact Rep.own d r1 a h
    · exact ownL ds r2 a h
theorem Rep.share : ∀ (d : D) {v : V} {O : List Addr}, Rep K A H d v O → (∀ a, A' a → A a ∧ a ∉ O) → Rep K A' H (share d) v []
  | .hole, v, O, r, hA => by simp [OE.share, Rep]
  | .non, v, O, r, hA => by simp only [Rep] at r; simp [OE.share, Rep, r.1]
  | .bl b, v, O, r, hA => by simp only [Rep] at r; simp [OE.share, Rep, r.1]
  | .int i, v, O, r, hA => by simp only [Rep] at r; simp [OE.share, Rep, r.1]
  | .str x, v, O, r, hA => by simp only [Rep] at r; simp [OE.share, Rep, r.1]
  | .scr x, v, O, r, hA => by simp only [Rep] at r; simp only [OE.share, Rep]; exact ⟨trivial, r.2⟩
  | .tup ds, v, O, r, hA => by
    simp only [Rep] at r
    simp only [OE.share, Rep]
    obtain ⟨a, vs, e, ht, hl, r⟩ := r
    exact ⟨a, vs, e, ht, by rw [shareL_map, List.length_map]; exact hl, shareL ds r hA⟩
  | .lst false ds, v, O, r, hA => by
    simp only [Rep] at r
    simp only [OE.share, Rep]
    obtain ⟨rfl, a, vs, e, hq, hl, r⟩ := r
    exact ⟨trivial, a, vs, e, ⟨hq.1, fun z => hq.2 (hA a z).1⟩, by rw [shareL_map, List.length_map]; exact hl, shareL ds r hA⟩
  | .lst true ds, v, O, r, hA => by
    simp only [Rep] at r
    simp only [OE.share, Rep]
    obtain ⟨a, vs, O', rfl, e, hq, hl, r⟩ := r
    refine ⟨trivial, a, vs, e, ⟨hq, fun z => (hA a z).2 (by simp)⟩, by rw [shareL_map, List.length_map]; exact hl, shareL ds r fun b hb => ?_⟩
    exact ⟨(hA b hb).1, fun z => (hA b hb).2 (List.mem_cons_of_mem _ z)⟩
where shareL : ∀ (ds : List D) {vs : List V} {O : List Addr}, RepL K A H ds vs O → (∀ a, A' a → A a ∧ a ∉ O) → RepL K A' H (OE.share.shareL ds) vs []
  | [], vs, O, r, hA => by simp only [Rep.RepL] at r; simp [OE.share.shareL, Rep.RepL, r.1]
  | d :: ds, vs, O, r, hA => by
    simp only [Rep.RepL] at r
    simp only [OE.share.shareL, Rep.RepL]
    obtain ⟨v, vs', O1, O2, e1, rfl, r1, r2⟩ := r
    refine ⟨v, vs', [], [], e1, rfl, Rep.share d r1 fun a ha => ?_, shareL ds r2 fun a ha => ?_⟩
    · exact ⟨(hA a ha).1, fun z => (hA a ha).2 (List.mem_append_left _ z)⟩
    · exact ⟨(hA a ha).1, fun z => (hA a ha).2 (List.mem_append_right _ z)⟩
theorem Rep.nil : ∀ (d : D) {v : V} {O : List Addr}, Rep K A H d v O → noOwn d = true → O = []
  | .hole, v, O, r, h => by simpa only [Rep] using r
  | .non, v, O, r, h => by simp only [Rep] at r; exact r.2
  | .bl b, v, O, r, h => by simp only [Rep] at r; exact r.2
  | .int i, v, O, r, h => by simp only [Rep] at r; exact r.2
  | .str x, v, O, r, h => by simp only [Rep] at r; exact r.2
  | .scr x, v, O, r, h => by simp only [Rep] at r; exact r.1
  | .tup ds, v, O, r, h => by
    simp only [Rep] at r
    simp only [noOwn] at h
    obtain ⟨a, vs, e, ht, hl, r⟩ := r
    exact nilL ds r h
  | .lst false ds, v, O, r, h => by simp only [Rep] at r; exact r.1
  | .lst true ds, v, O, r, h => by simp [noOwn] at h
where nilL : ∀ (ds : List D) {vs : List V} {O : List Addr}, RepL K A H ds vs O → noOwn.noOwnL ds = true → O = []
  | [], vs, O, r, h => by simp only [Rep.RepL] at r; exact r.2
  | d :: ds, vs, O, r, h => by
    simp only [Rep.RepL] at r
    simp only [noOwn.noOwnL, Bool.and_eq_true] at h
    obtain ⟨v, vs', O1, O2, e1, rfl, r1, r2⟩ := r
    rw [Rep.nil d r1 h.1, nilL ds r2 h.2]; rfl
theorem RepL.len : ∀ {ds : List D} {vs : List V} {O : List Addr}, RepL K A H ds vs O → vs.length = ds.length
  | [], vs, O, r => by simp only [RepL, Rep.RepL] at r; simp [r.1]
  | d :: ds, vs, O, r => by
    simp only [RepL, Rep.RepL] at r
    obtain ⟨v, vs', O1, O2, rfl, rfl, r1, r2⟩ := r
    simp [RepL.len r2]
end

/-! ### slots -/
def RepO (K : PySem.W.Frag) (A : Addr → Prop) (H : Hp) (d : D) (ov : Option V) (O : List Addr) : Prop := (d = .hole ∧ O = []) ∨ ∃ v, ov = some v ∧ Rep K A H d v O
def RepS (K : PySem.W.Frag) (A : Addr → Prop) (H : Hp) : List D → List (Option V) → List Addr → Prop
  | [], σ, O => σ = [] ∧ O = []
  | d :: ds, σ, O => ∃ ov σ' O1 O2, σ = ov :: σ' ∧ O = O1 ++ O2 ∧ RepO K A H d ov O1 ∧ RepS K A H ds σ' O2
section
variable {K : PySem.W.Frag} {A A' : Addr → Prop} {H H' : Hp} {d : D} {ov : Option V} {O : List Addr} {env : List D} {σ : List (Option V)}
theorem RepO.move (r : RepO K A H d ov O) (hk : ∀ a o, H a = some o → (a ∈ O ∨ ¬ A a ∨ (∀ xs, o ≠ .lst xs)) → H' a = some o) (hA : ∀ a, ¬ A a → H a ≠ none → ¬ A' a) : RepO K A' H' d ov O := by
  rcases r with r | ⟨v, e, r⟩
  · exact .inl r
  · exact .inr ⟨v, e, r.move d hk hA⟩
theorem RepO.own (r : RepO K A H d ov O) : ∀ a ∈ O, ∃ xs, H a = some (.lst xs) := by
  rcases r with ⟨_, rfl⟩ | ⟨v, e, r⟩
  · intro a h; cases h
  · exact r.own d
theorem RepS.move : ∀ {env : List D} {σ : List (Option V)} {O : List Addr}, RepS K A H env σ O → (∀ a o, H a = some o → (a ∈ O ∨ ¬ A a ∨ (∀ xs, o ≠ .lst xs)) → H' a = some o) → (∀ a, ¬ A a → H a ≠ none → ¬ A' a) → RepS K A' H' env σ O
  | [], _, _, r, _, _ => r
  | d :: ds, _, _, ⟨ov, σ', O1, O2, e1, e2, r1, r2⟩, hk, hA => by
    subst e1 e2
    refine ⟨ov, σ', O1, O2, rfl, rfl, r1.move (fun b o e1 e2 => hk b o e1 ?_) hA, r2.move (fun b o e1 e2 => hk b o e1 ?_) hA⟩
    · exact e2.imp_left fun z => List.mem_append_left _ z
    · exact e2.imp_left fun z => List.mem_append_right _ z
theorem RepS.own : ∀ {env : List D} {σ : List (Option V)} {O : List Addr}, RepS K A H env σ O → ∀ a ∈ O, ∃ xs, H a = some (.lst xs)
  | [], _, _, ⟨_, e⟩ => by subst e; intro a h; cases h
  | d :: ds, _, _, ⟨ov, σ', O1, O2, e1, e2, r1, r2⟩ => by
    subst e1 e2
    intro a h
    rcases List.mem_append.mp h with h | h
    · exact r1.own a h
    · exact r2.own a h
theorem RepS.len : ∀ {env : List D} {σ : List (Option V)} {O : List Addr}, RepS K A H env σ O → σ.length = env.length
  | [], _, _, ⟨e, _⟩ => by subst e; rfl
  | d :: ds, _, _, ⟨ov, σ', O1, O2, e1, e2, r1, r2⟩ => by subst e1; simp [r2.len]
theorem RepS.append : ∀ {a b : List D} {s t : List (Option V)} {P Q : List Addr}, RepS K A H a s P → RepS K A H b t Q → RepS K A H (a ++ b) (s ++ t) (P ++ Q)
  | [], _, _, _, _, _, ⟨e1, e2⟩, r2 => by subst e1 e2; exact r2
  | d :: ds, _, _, _, _, _, ⟨ov, σ', O1, O2, e1, e2, r1, r2⟩, r3 => by
    subst e1 e2
    exact ⟨ov, _, O1, _, rfl, by rw [List.append_assoc], r1, r2.append r3⟩
theorem RepS.split : ∀ {a b : List D} {σ : List (Option V)} {O : List Addr}, RepS K A H (a ++ b) σ O → ∃ s t P Q, σ = s ++ t ∧ O = P ++ Q ∧ s.length = a.length ∧ RepS K A H a s P ∧ RepS K A H b t Q
  | [], b, σ, O, r => ⟨[], σ, [], O, rfl, rfl, rfl, ⟨rfl, rfl⟩, r⟩
  | d :: ds, b, _, _, ⟨ov, σ', O1, O2, e1, e2, r1, r2⟩ => by
    subst e1 e2
    obtain ⟨s, t, P, Q, rfl, rfl, hl, r3, r4⟩ := RepS.split (a := ds) r2
    exact ⟨ov :: s, t, O1 ++ P, Q, rfl, by rw [List.append_assoc], by simp [hl], ⟨ov, s, O1, P, rfl, rfl, r1, r3⟩, r4⟩
theorem RepS.at {i : Nat} (r : RepS K A H env σ O) (h : env[i]? = some d) : ∃ l rr sl sr ov Ol O1 Or, env = l ++ d :: rr ∧ l.length = i ∧ σ = sl ++ ov :: sr ∧ sl.length = i ∧ O = Ol ++ (O1 ++ Or) ∧
    RepS K A H l sl Ol ∧ RepO K A H d ov O1 ∧ RepS K A H rr sr Or := by
  have hi : i < env.length := (List.getElem?_eq_some_iff.mp h).1
  have e : env = env.take i ++ d :: env.drop (i + 1) := by
    rw [List.getElem?_eq_getElem hi] at h
    have := (List.take_append_drop i env).symm
    rw [List.drop_eq_getElem_cons hi] at this
    rw [Option.some.inj h] at this
    exact this
  have hl : (env.take i).length = i := by rw [List.length_take]; omega
  generalize env.take i = l at e hl
  generalize env.drop (i + 1) = rr at e
  subst e
  obtain ⟨s, t, P, Q, rfl, rfl, h3, r3, ov, sr, O1, O2, rfl, rfl, r5, r6⟩ := RepS.split r
  exact ⟨l, rr, s, sr, ov, P, O1, O2, rfl, hl, rfl, by omega, rfl, r3, r5, r6⟩
theorem RepL.toS : ∀ {ds : List D} {vs : List V} {O : List Addr}, RepL K A H ds vs O → RepS K A H ds (vs.map some) O
  | [], vs, O, r => by simp only [RepL, Rep.RepL] at r; obtain ⟨rfl, rfl⟩ := r; exact ⟨rfl, rfl⟩
  | d :: ds, vs, O, r => by
    simp only [RepL, Rep.RepL] at r
    obtain ⟨v, vs', O1, O2, rfl, rfl, r1, r2⟩ := r
    exact ⟨some v, vs'.map some, O1, O2, rfl, rfl, .inr ⟨v, rfl, r1⟩, RepL.toS r2⟩
theorem RepS.toL : ∀ {ds : List D} {vs : List V} {O : List Addr}, RepS K A H ds (vs.map some) O → RepL K A H ds vs O
  | [], vs, O, ⟨e1, e2⟩ => by
    simp only [RepL, Rep.RepL]
    exact ⟨by simpa using e1, e2⟩
  | d :: ds, vs, O, ⟨ov, σ', O1, O2, e1, e2, r1, r2⟩ => by
    cases vs with
    | nil => cases e1
    | cons v vs =>
      simp only [List.map_cons, List.cons.injEq] at e1
      obtain ⟨rfl, rfl⟩ := e1
      subst e2
      simp only [RepL, Rep.RepL]
      refine ⟨v, vs, O1, O2, rfl, rfl, ?_, r2.toL⟩
      rcases r1 with ⟨rfl, rfl⟩ | ⟨w, e, r1⟩
      · simp [Rep]
      · cases e; exact r1
end

/-- the state: env stands for the slots σ; O: the owned lists; F: the lists that others own -/
structure St (K : PySem.W.Frag) (F : Addr → Prop) (H : Hp) (env : List D) (σ : List (Option V)) (O : List Addr) : Prop where
  nd : O.Nodup
  nf : ∀ a ∈ O, ¬ F a
  fh : ∀ a, F a → H a ≠ none
  rep : RepS K (fun a => F a ∨ a ∈ O) H env σ O
/-- the heap from (O, H) to (O', H'): what is not owned stays; what is owned behind was so ahead, or is new -/
def Ext (O : List Addr) (H : Hp) (O' : List Addr) (H' : Hp) : Prop :=
  (∀ a o, H a = some o → (a ∉ O ∨ (∀ xs, o ≠ .lst xs)) → H' a = some o) ∧ ∀ a ∈ O', a ∈ O ∨ H a = none
section
variable {K : PySem.W.Frag} {F : Addr → Prop} {H H1 H2 H' : Hp} {O O1 O2 O' O1' : List Addr} {P P' R env : List D} {pv pv' rv σ : List (Option V)} {d : D} {v : V}
theorem Ext.refl : Ext O H O H := ⟨fun _ _ e _ => e, fun _ h => .inl h⟩
theorem Ext.trans (a : Ext O H O1 H1) (b : Ext O1 H1 O2 H2) : Ext O H O2 H2 := by
  have key : ∀ c o, H c = some o → (c ∉ O ∨ (∀ xs, o ≠ .lst xs)) → H1 c = some o ∧ (c ∉ O1 ∨ (∀ xs, o ≠ .lst xs)) := fun c o e h => by
    refine ⟨a.1 c o e h, ?_⟩
    rcases h with h | h
    · refine .inl fun z => ?_
      rcases a.2 c z with q | q
      · exact h q
      · rw [e] at q; cases q
    · exact .inr h
  refine ⟨fun c o e h => b.1 c o (key c o e h).1 (key c o e h).2, fun c h => ?_⟩
  rcases b.2 c h with q | q
  · exact a.2 c q
  · by_cases hc : c ∈ O
    · exact .inl hc
    · refine .inr ?_
      cases e : H c with
      | none => rfl
      | some o =>
        rw [(key c o e (.inl hc)).1] at q; cases q
theorem Ext.less (a : Ext O H O1 H1) (h : ∀ c ∈ O2, c ∈ O1) : Ext O H O2 H1 := ⟨a.1, fun c z => a.2 c (h c z)⟩
theorem Ext.more (a : Ext O H O1 H1) (h : ∀ c ∈ O, c ∈ O2) : Ext O2 H O1 H1 := ⟨fun c o e z => a.1 c o e (z.imp_left fun q y => q (h c y)), fun c z => (a.2 c z).imp_left (h c)⟩
theorem Ext.new {p : Addr} {o : HO} (hp : H p = none) : Ext O H (p :: O) (upd H p o) := by
  refine ⟨fun a u e _ => by rw [upd_ne (ne_of_none e hp)]; exact e, fun a h => ?_⟩
  rcases List.mem_cons.mp h with rfl | h
  · exact .inr hp
  · exact .inl h
theorem Ext.newT {p : Addr} {o : HO} (hp : H p = none) : Ext O H O (upd H p o) := (Ext.new hp).less fun _ h => List.mem_cons_of_mem _ h
theorem Ext.set {p : Addr} {xs : List V} {o : HO} (h : p ∈ O) (hp : H p = some (.lst xs)) : Ext O H O (upd H p o) := by
  refine ⟨fun a u e z => ?_, fun a h => .inl h⟩
  have : a ≠ p := by
    rintro rfl
    rcases z with z | z
    · exact z h
    · rw [hp] at e; cases e; exact z _ rfl
  rw [upd_ne this]; exact e
theorem Ext.frame (a : Ext O1 H O1' H') : Ext (O1 ++ O2) H (O1' ++ O2) H' := by
  refine ⟨fun c o e z => a.1 c o e (z.imp_left fun q y => q (List.mem_append_left _ y)), fun c z => ?_⟩
  rcases List.mem_append.mp z with z | z
  · exact (a.2 c z).imp_left fun q => List.mem_append_left _ q
  · exact .inl (List.mem_append_right _ z)
theorem Ext.frame' (a : Ext O1 H O1' H') : Ext (O2 ++ O1) H (O2 ++ O1') H' := by
  refine ⟨fun c o e z => a.1 c o e (z.imp_left fun q y => q (List.mem_append_right _ y)), fun c z => ?_⟩
  rcases List.mem_append.mp z with z | z
  · exact .inl (List.mem_append_left _ z)
  · exact (a.2 c z).imp_left fun q => List.mem_append_right _ q

theorem St.own (s : St K F H env σ O) : ∀ a ∈ O, ∃ xs, H a = some (.lst xs) := s.rep.own
theorem St.split {a b : List D} (s : St K F H (a ++ b) σ O) : ∃ sl sr O1 O2, σ = sl ++ sr ∧ O = O1 ++ O2 ∧ sl.length = a.length ∧ St K (fun x => F x ∨ x ∈ O2) H a sl O1 ∧ St K (fun x => F x ∨ x ∈ O1) H b sr O2 := by
  obtain ⟨nd, nf, fh, rep⟩ := s
  obtain ⟨sl, sr, O1, O2, rfl, rfl, hl, r1, r2⟩ := rep.split
  have nd' := List.nodup_append.mp nd
  have own1 := r1.own
  have own2 := r2.own
  refine ⟨sl, sr, O1, O2, rfl, rfl, hl, ⟨nd'.1, fun x hx z => ?_, fun x z => ?_, r1.move (fun _ _ e _ => e) fun x h _ z => h ?_⟩, ⟨nd'.2.1, fun x hx z => ?_, fun x z => ?_, r2.move (fun _ _ e _ => e) fun x h _ z => h ?_⟩⟩
  · rcases z with z | z
    · exact nf x (List.mem_append_left _ hx) z
    · exact nd'.2.2 x hx x z rfl
  · rcases z with z | z
    · exact fh x z
    · obtain ⟨xs, e⟩ := own2 x z; rw [e]; simp
  · simp only [List.mem_append]
    rcases z with (z | z) | z
    · exact .inl z
    · exact .inr (.inr z)
    · exact .inr (.inl z)
  · rcases z with z | z
    · exact nf x (List.mem_append_right _ hx) z
    · exact nd'.2.2 x z x hx rfl
  · rcases z with z | z
    · exact fh x z
    · obtain ⟨xs, e⟩ := own1 x z; rw [e]; simp
  · simp only [List.mem_append]
    rcases z with (z | z) | z
    · exact .inl z
    · exact .inr (.inl z)
    · exact .inr (.inr z)
theorem St.join {a b : List D} {sl sr : List (Option V)} (s1 : St K (fun x => F x ∨ x ∈ O2) H a sl O1) (s2 : St K (fun x => F x ∨ x ∈ O1) H b sr O2) : St K F H (a ++ b) (sl ++ sr) (O1 ++ O2) := by
  refine ⟨List.nodup_append.mpr ⟨s1.nd, s2.nd, fun x hx y hy e => s1.nf x hx (.inr (e ▸ hy))⟩, fun x hx z => ?_, fun x z => s1.fh x (.inl z), ?_⟩
  · rcases List.mem_append.mp hx with hx | hx
    · exact s1.nf x hx (.inl z)
    · exact s2.nf x hx (.inl z)
  · refine (s1.rep.move (fun _ _ e _ => e) fun x h _ z => h ?_).append (s2.rep.move (fun _ _ e _ => e) fun x h _ z => h ?_)
    · simp only [List.mem_append] at z
      rcases z with z | z | z
      · exact .inl (.inl z)
      · exact .inr z
      · exact .inl (.inr z)
    · simp only [List.mem_append] at z
      rcases z with z | z | z
      · exact .inl (.inl z)
      · exact .inl (.inr z)
      · exact .inr z
/-- the other part, behind a run of the one -/
theorem St.other (s1 : St K (fun x => F x ∨ x ∈ O2) H P pv O1) (s2 : St K (fun x => F x ∨ x ∈ O1) H R rv O2) (e : Ext O1 H O1' H') (s1' : St K (fun x => F x ∨ x ∈ O2) H' P' pv' O1') : St K (fun x => F x ∨ x ∈ O1') H' R rv O2 := by
  have n12 : ∀ x ∈ O2, x ∉ O1 := fun x hx z => s2.nf x hx (.inr z)
  refine ⟨s2.nd, fun x hx z => ?_, fun x z => ?_, s2.rep.move (fun x o e1 e2 => e.1 x o e1 ?_) fun x h hn z => h ?_⟩
  · rcases z with z | z
    · exact s2.nf x hx (.inl z)
    · exact s1'.nf x z (.inr hx)
  · rcases z with z | z
    · exact s1'.fh x (.inl z)
    · obtain ⟨xs, q⟩ := s1'.own x z; rw [q]; simp
  · rcases e2 with e2 | e2 | e2
    · exact .inl (n12 x e2)
    · exact .inl fun z => e2 (.inl (.inr z))
    · exact .inr e2
  · rcases z with (z | z) | z
    · exact .inl (.inl z)
    · rcases e.2 x z with q | q
      · exact .inl (.inr q)
      · exact absurd q hn
    · exact .inr z
/-- the frame may grow or shrink by what makes no difference -/
theorem St.congr {F' : Addr → Prop} (s : St K F H env σ O) (h : ∀ a, F' a ↔ F a) : St K F' H env σ O :=
  ⟨s.nd, fun a ha z => s.nf a ha ((h a).mp z), fun a z => s.fh a ((h a).mp z), s.rep.move (fun _ _ e _ => e) fun a hn _ z => hn (z.imp_left (h a).mp)⟩
/-- less is owned by others -/
theorem St.less {F' : Addr → Prop} (s : St K F H env σ O) (h : ∀ a, F' a → F a) : St K F' H env σ O :=
  ⟨s.nd, fun a ha z => s.nf a ha (h a z), fun a z => s.fh a (h a z), s.rep.move (fun _ _ e _ => e) fun a hn _ z => hn (z.imp_left (h a))⟩
end
end OE

/-! Oe1: a small syntax of defs, and what it comes to on data trees. -/
namespace OE
open PySem PySem.Spec PyProof.Rows L2

inductive BOp | add | sub | mul | fdiv | mod | pow | band | shl | shr deriving DecidableEq
inductive COp | eq | ne | lt | le | gt | ge | isN | notN | isIn | notIn deriving DecidableEq
inductive Ty | int | bool | str | list | tuple | dict deriving DecidableEq
inductive Bf | len | sum | sumL | min | max | abs | int | list | tuple | sorted | all | any | bits | repr deriving DecidableEq
inductive Ix | n (k : Int) | v (i : Nat) | vp (i : Nat) (k : Int) | vm (i : Nat) (k : Int)
inductive Tg | nm (i : Nat) | tp (is : List Nat)

mutual
inductive E
  | sh (i : Nat) | mv (i : Nat) | pk (i : Nat) (xs : List Ix) | len (i : Nat) (xs : List Ix) | emp (i : Nat) (xs : List Ix) (neg : Bool)
  | non | bl (b : Bool) | int (i : Int) | str (x : Str)
  | tup (es : Es) | lst (es : Es)
  | bin (op : BOp) (a b : E) | neg (a : E) | not (a : E)
  | cmp (op : COp) (a b : E) | chain (o1 o2 : COp) (a b c : E)
  | and (es : Es) | or (es : Es) | ite (c a b : E)
  | sub (a i : E) | slc (a : E) (fl : Bool) (lo : E) (fh : Bool) (hi : E) | rvs (a : E)
  | call (f : Nat) (as : As) | callK (f : Nat) (as : As) (js ix : List Nat) | blt (b : Bf) (es : Es) | isI (a : E) (ts : List Ty)
  | comp (own : List Nat) (elt : E) (tg : Tg) (it : It) (c : Option Unit) (cond : E) | comp2 (own own2 : List Nat) (elt : E) (tg : Tg) (it : It) (tg2 : Tg) (it2 : It)
  | pop (i : Nat) (es : Es)
  | lrg1 (a : E) | lrg2 (a b : E) | eqp (i : Nat) (xs : List Ix) (j : Nat) (ys : List Ix) (neg : Bool) | catp (i : Nat) (xs : List Ix) (j : Nat) (ys : List Ix) | nonp (i : Nat) (xs : List Ix) (neg : Bool) | srtp (i : Nat) (xs : List Ix) | inp (i : Nat) (xs : List Ix) (j : Nat) (ys : List Ix) (neg : Bool)
inductive Es | nil | cons (e : E) (es : Es)
inductive As | nil | ex (e : E) (r : As) | io (i : Nat) (r : As) | bw (i : Nat) (r : As)
inductive It | e (a : E) | bor (i : Nat) | rng1 (a : E) | rng2 (a b : E) | enum (a : E) | enumB (i : Nat) | rev (a : E)
end
mutual
inductive S
  | asg (i : Nat) (e : E) | par (i j : Nat) (a b : E) | unp (is : List Nat) (e : E) | seti (i : Nat) (xs : List Ix) (k : E) (e : E)
  | app (i : Nat) (xs : List Ix) (e : E) | ex (e : E) | ite (c : E) (a b : Ss) | for_ (tg : Tg) (it : It) (body : Ss) | whil (c : E) (body : Ss)
  | ret (e : E) | retN | pass | brk | cnt | no
inductive Ss | nil | cons (s : S) (r : Ss)
end

/-! ### data -/
/-- a test that the kernel does not run -/
noncomputable def chk (p : Prop) : Bool := @decide p (Classical.propDecidable p)
theorem chk_iff {p : Prop} : chk p = true ↔ p := @decide_eq_true_iff p (Classical.propDecidable p)
noncomputable section
def mulOk (i j : Int) : Bool := chk (i.natAbs.log2 + j.natAbs.log2 < 1000000)
def divOk (j : Int) : Bool := decide (0 < j) && chk (j.natAbs.log2 < 9000)
def powOk (i j : Int) : Bool := decide (0 ≤ j) && chk ((Builtin.Int.intBits i : Int) * j ≤ 2 ^ 27)
def lim : Nat := sizeLine
def D.sd : D → Bool := noOwn
/-- no hole, no script, texts that == reads -/
def plainD : D → Bool
  | .hole => false
  | .scr _ => false
  | .str x => PySem.PyData.strOk x
  | .tup xs => plainL xs
  | .lst _ xs => plainL xs
  | _ => true
where plainL : List D → Bool
  | [] => true
  | d :: ds => plainD d && plainL ds
def toPy : D → PyData
  | .hole => .none
  | .non => .none
  | .bl b => .bool b
  | .int i => .int i
  | .str x => .str x
  | .tup xs => .tuple (toPyL xs)
  | .lst _ xs => .list (toPyL xs)
  | .scr _ => .none
where toPyL : List D → List PyData
  | [] => []
  | d :: ds => toPy d :: toPyL ds
/-- nested at most n deep -/
def within : Nat → D → Bool
  | 0, .tup _ => false
  | 0, .lst _ _ => false
  | n + 1, .tup xs => xs.all (within n)
  | n + 1, .lst _ xs => xs.all (within n)
  | _, _ => true
def eqD (a b : D) : Option Bool := if plainD a && plainD b && (within 60 a || within 60 b) then some (PyData.eqv (toPy a) (toPy b)) else none
def allInts : List D → Option (List Int)
  | [] => some []
  | .int i :: ds => (allInts ds).map (i :: ·)
  | _ => none
def cmpD (op : COp) (a b : D) : Option Bool :=
  match op with
  | .eq => eqD a b
  | .ne => (eqD a b).map (!·)
  | .lt => match a, b with | .int i, .int j => some (decide (i < j)) | _, _ => none
  | .le => match a, b with | .int i, .int j => some (decide (i ≤ j)) | _, _ => none
  | .gt => match a, b with | .int i, .int j => some (decide (j < i)) | _, _ => none
  | .ge => match a, b with | .int i, .int j => some (decide (j ≤ i)) | _, _ => none
  | .isN => match a, b with | .hole, _ => none | .non, .non => some true | _, .non => some false | .bl c, .bl k => some (c == k) | _, .bl _ => some false | _, _ => none
  | .notN => match a, b with | .hole, _ => none | .non, .non => some false | _, .non => some true | .bl c, .bl k => some (c != k) | _, .bl _ => some true | _, _ => none
  | .isIn => match a, b with | .int i, .lst _ xs => (allInts xs).map fun ns => ns.any (· == i) | .int i, .tup xs => (allInts xs).map fun ns => ns.any (· == i) | _, _ => none
  | .notIn => match a, b with | .int i, .lst _ xs => (allInts xs).map fun ns => !ns.any (· == i) | .int i, .tup xs => (allInts xs).map fun ns => !ns.any (· == i) | _, _ => none
/-- xs * k -/
def repOk (xs : List D) (k : Int) : Bool := xs.all noOwn && chk (-(2 ^ 63) ≤ k) && chk (k < 2 ^ 63) && chk (xs.length * k.toNat ≤ lim)
def isSeqD : D → Bool
  | .tup _ => true
  | .lst _ _ => true
  | _ => false
/-- repr of a list or tuple -/
def repD (d : D) : Option D := if plainD d && within 60 d && isSeqD d && chk ((toPy d).showable = true) && chk ((toPy d).shown.length ≤ lim) then some (.str (toPy d).shown) else none
def binD (op : BOp) (a b : D) : Option D :=
  match op with
  | .add => match a, b with
    | .int i, .int j => some (.int (i + j))
    | .tup xs, .tup ys => if xs.length + ys.length ≤ lim then some (.tup (xs ++ ys)) else none
    | .lst _ xs, .lst _ ys => if xs.length + ys.length ≤ lim then some (.lst true (xs ++ ys)) else none
    | _, _ => none
  | .sub => match a, b with | .int i, .int j => some (.int (i - j)) | _, _ => none
  | .mul => match a, b with
    | .int i, .int j => if mulOk i j then some (.int (i * j)) else none
    | .lst _ xs, .int k => if repOk xs k then some (.lst true (List.replicate k.toNat xs).flatten) else none
    | _, _ => none
  | .fdiv => match a, b with | .int i, .int j => if divOk j then some (.int (i / j)) else none | _, _ => none
  | .mod => match a, b with | .int i, .int j => if decide (0 < j) then some (.int (i % j)) else none | _, _ => none
  | .pow => match a, b with | .int i, .int j => if powOk i j then some (.int (i ^ j.toNat)) else none | _, _ => none
  | _ => none
def subD (a b : D) : Option D :=
  match a, b with
  | .tup xs, .int k => atI xs k
  | .lst _ xs, .int k => atI xs k
  | .scr ns, .int k => (atI ns k).map D.int
  | _, _ => none
def isTy (d : D) (t : Ty) : Option Bool :=
  match d, t with
  | .hole, _ => none
  | .non, _ => some false
  | .bl _, .bool => some true
  | .bl _, .int => some true
  | .bl _, _ => some false
  | .int _, .int => some true
  | .int _, _ => some false
  | .str _, .str => some true
  | .str _, _ => some false
  | .tup _, .tuple => some true
  | .tup _, _ => some false
  | .lst _ _, .list => some true
  | .lst _ _, _ => some false
  | .scr _, .list => some true
  | .scr _, _ => some false
def isTys (d : D) : List Ty → Option Bool
  | [] => some false
  | t :: ts => match isTy d t with | none => none | some true => some true | some false => isTys d ts
def allBools : List D → Option (List Bool)
  | [] => some []
  | .bl b :: ds => (allBools ds).map (b :: ·)
  | _ => none
/-- the sum of lists -/
def catAll : List D → Option (List D)
  | [] => some []
  | .lst _ xs :: ds => (catAll ds).map (xs ++ ·)
  | _ => none
def minI : List Int → Option Int
  | [] => none
  | [i] => some i
  | i :: r => (minI r).map (min i ·)
def maxI : List Int → Option Int
  | [] => none
  | [i] => some i
  | i :: r => (maxI r).map (max i ·)
def bLen : List D → Option D
  | [.tup xs] => some (.int xs.length)
  | [.lst _ xs] => some (.int xs.length)
  | [.scr ns] => some (.int ns.length)
  | _ => none
def bSum : List D → Option D
  | [.lst _ xs] => (allInts xs).map fun ns => .int ns.sum
  | _ => none
def bSumL : List D → Option D
  | [.lst _ xs, .lst true []] => (catAll xs).bind fun ys => if ys.length ≤ lim then some (.lst true ys) else none
  | _ => none
def bMin : List D → Option D
  | [.int i, .int j] => some (.int (if j < i then j else i))
  | [.lst _ xs] => (allInts xs).bind fun ns => (minI ns).map D.int
  | _ => none
def bMax : List D → Option D
  | [.int i, .int j] => some (.int (if j > i then j else i))
  | [.lst _ xs] => (allInts xs).bind fun ns => (maxI ns).map D.int
  | _ => none
def bAbs : List D → Option D
  | [.int i] => some (.int (if i < 0 then -i else i))
  | _ => none
def bInt : List D → Option D
  | [.int i] => some (.int i)
  | [.bl k] => some (.int (if k then 1 else 0))
  | _ => none
def bList : List D → Option D
  | [.lst _ xs] => some (.lst true xs)
  | [.tup xs] => some (.lst true xs)
  | _ => none
def bTuple : List D → Option D
  | [.lst _ xs] => some (.tup xs)
  | [.tup xs] => some (.tup xs)
  | _ => none
def bSorted : List D → Option D
  | [.lst _ xs] => (allInts xs).map fun ns => .lst true ((ns.mergeSort fun a b => decide (a ≤ b)).map D.int)
  | _ => none
def bAll : List D → Option D
  | [.lst _ xs] => (allBools xs).map fun bs => .bl (bs.all id)
  | _ => none
def bAny : List D → Option D
  | [.lst _ xs] => (allBools xs).map fun bs => .bl (bs.any id)
  | _ => none
def bBits : List D → Option D
  | [.int i] => some (.int (Builtin.Int.intBits i : Nat))
  | _ => none
/-- two lists of things that are not owned, one behind the other -/
def catD (a b : D) : Option D :=
  match a, b with
  | .lst _ xs, .lst _ ys => if xs.all noOwn && ys.all noOwn && chk (xs.length + ys.length ≤ lim) then some (.lst true (xs ++ ys)) else none
  | _, _ => none
def isNon : D → Option Bool
  | .hole => none
  | .non => some true
  | _ => some false
def bRepr : List D → Option D
  | [d] => repD d
  | _ => none
def bltD : Bf → List D → Option D
  | .len => bLen | .sum => bSum | .sumL => bSumL | .min => bMin | .max => bMax | .abs => bAbs | .int => bInt | .list => bList | .tuple => bTuple
  | .sorted => bSorted | .all => bAll | .any => bAny | .bits => bBits | .repr => bRepr
/-- a part without end: xs[lo:hi] -/
def cutD {α : Type} (xs : List α) (lo hi : Option Int) : List α := (xs.drop (HT.sIx xs.length 0 lo)).take (HT.sIx xs.length xs.length hi - HT.sIx xs.length 0 lo)
def slcD (d : D) (lo hi : Option Int) : Option D :=
  match d with
  | .lst _ xs => some (.lst true (cutD xs lo hi))
  | .tup xs => some (.tup (cutD xs lo hi))
  | .scr ns => some (.lst true ((cutD ns lo hi).map D.int))
  | _ => none

/-! ### slots, places -/
def ixv (env : List D) : Ix → Option Int
  | .n k => some k
  | .v i => match env[i]? with | some (.int k) => some k | _ => none
  | .vp i c => match env[i]? with | some (.int k) => some (k + c) | _ => none
  | .vm i c => match env[i]? with | some (.int k) => some (k - c) | _ => none
/-- below a tree, down a path (the last step first) -/
def getP (env : List D) (d : D) : List Ix → Option D
  | [] => some d
  | x :: r => (getP env d r).bind fun e => (ixv env x).bind fun k => subD e (.int k)
/-- the owned list below a tree, down a path, is changed -/
def setP (env : List D) (f : List D → Option (List D)) : D → List Ix → Option D
  | .lst true xs, [] => (f xs).map (.lst true)
  | .tup xs, x :: r => (ixv env x).bind fun k => (ixN xs.length k).bind fun j => (xs[j]?).bind fun d => (setP env f d r).map fun d' => .tup (xs.set j d')
  | .lst true xs, x :: r => (ixv env x).bind fun k => (ixN xs.length k).bind fun j => (xs[j]?).bind fun d => (setP env f d r).map fun d' => .lst true (xs.set j d')
  | _, _ => none
def getV (env : List D) (i : Nat) : Option D := match env[i]? with | some .hole => none | r => r
def place (env : List D) (i : Nat) (xs : List Ix) : Option D := (getV env i).bind fun d => getP env d xs
/-- no shared list within -/
def closed : D → Bool
  | .hole => false
  | .scr _ => false
  | .tup xs => closedL xs
  | .lst o xs => o && closedL xs
  | _ => true
where closedL : List D → Bool
  | [] => true
  | d :: ds => closed d && closedL ds

/-- the functions by number: arguments to the value and the arguments behind -/
abbrev Fns := Nat → List D → Option (D × List D)

def wipeD (env : List D) : List Nat → List D
  | [] => env
  | v :: vs => (wipeD env vs).set v .hole
/-- the slots own of env0, else env -/
def backD (env env0 : List D) : List Nat → List D
  | [] => env
  | v :: vs => match env0[v]? with | some d => (backD env env0 vs).set v d | none => backD env env0 vs
/-- what was walked is put back -/
def putD (r : Option (Nat × D)) (env : List D) : List D := match r with | none => env | some (i, d) => env.set i d
def putI (r : Option (Nat × D)) : List Nat := match r with | none => [] | some (i, _) => [i]
def bindMany (ios : List Nat) : List Nat → List D → List D → Option (List D)
  | [], [], env => some env
  | i :: is, d :: ds, env => if i ∈ ios then none else bindMany ios is ds (env.set i d)
  | _, _, _ => none
def bindT (ios : List Nat) (tg : Tg) (d : D) (env : List D) : Option (List D) :=
  match tg with
  | .nm i => if i ∈ ios then none else some (env.set i d)
  | .tp is => match d with | .tup ds => bindMany ios is ds env | _ => none
/-- a comprehension's turns -/
def turns (step : List D → D → Option (Option D × List D)) : List D → List D → List D → Option (List D × List D)
  | [], env, acc => some (acc, env)
  | d :: ds, env, acc => match step env d with
    | none => none
    | some (none, env') => turns step ds env' acc
    | some (some y, env') => turns step ds env' (acc ++ [y])
/-- the turns of a comprehension's first clause -/
def turns2 (step : List D → D → List D → Option (List D × List D)) : List D → List D → List D → Option (List D × List D)
  | [], env, acc => some (acc, env)
  | d :: ds, env, acc => (step env d acc).bind fun q => turns2 step ds q.2 q.1
def rngD (lo hi : Int) : List D := (List.range (hi - lo).toNat).map fun i => .int (lo + (i : Nat))
def enumD (xs : List D) : List D := xs.zipIdx.map fun p => .tup [.int (p.2 : Nat), p.1]
def small (i : Int) : Bool := chk (-(2 ^ 62) ≤ i) && chk (i < 2 ^ 62)
def rngOk (m n : Int) : Bool := small m && small n && chk ((n - m).toNat ≤ lim)
def rngs (m n : Int) : Option (List D) := if rngOk m n then some (rngD m n) else none
/-- what is walked -/
def seqD : D → Option (List D)
  | .lst _ xs => some xs
  | .tup xs => some xs
  | _ => none
def lstD : D → Option (List D)
  | .lst _ xs => some xs
  | _ => none
def fillA : As → List D → List D → Option (List D × List D)
  | .nil, [], env => some ([], env)
  | .ex _ r, d :: ds, env => (fillA r ds env).map fun p => (d :: p.1, p.2)
  | .io i r, _ :: ds, env => (getV env i).bind fun d => (fillA r ds (env.set i .hole)).map fun p => (d :: p.1, p.2)
  | .bw i r, _ :: ds, env => (fillA r ds env).bind fun p => (getV p.2 i).map fun d => (share d :: p.1, p.2)
  | _, _, _ => none
def backA : As → List D → List D → Option (List D)
  | .nil, [], env => some env
  | .ex _ r, _ :: ds, env => backA r ds env
  | .io i r, d :: ds, env => backA r ds (env.set i d)
  | .bw _ r, _ :: ds, env => backA r ds env
  | _, _, _ => none
def hasBw : As → Bool
  | .nil => false
  | .ex _ r => hasBw r
  | .io _ r => hasBw r
  | .bw _ _ => true
def iosOf : As → List D → List D
  | .ex _ r, _ :: ds => iosOf r ds
  | .io _ r, d :: ds => d :: iosOf r ds
  | .bw _ r, _ :: ds => iosOf r ds
  | _, _ => []

/-- these places of a list -/
def permD {α : Type} (js : List Nat) (l : List α) : List α := js.filterMap fun j => l[j]?
mutual
def ev (Γ : Fns) (ios : List Nat) : E → List D → Option (D × List D)
  | .sh i, env => (getV env i).map fun d => (share d, env.set i (share d))
  | .mv i, env => if i ∈ ios then none else (getV env i).map fun d => (d, env.set i .hole)
  | .pk i xs, env => (getV env i).bind fun r => (getP env r xs).bind fun d => if noOwn d then some (d, env) else some (share d, env.set i (share r))
  | .len i xs, env => (place env i xs).bind fun d => (bltD .len [d]).map fun r => (r, env)
  | .emp i xs neg, env => (place env i xs).bind fun d => (eqD d (.lst true [])).map fun b => (.bl (b != neg), env)
  | .non, env => some (.non, env)
  | .bl b, env => some (.bl b, env)
  | .int i, env => some (.int i, env)
  | .str x, env => some (.str x, env)
  | .tup es, env => (evs Γ ios es env).bind fun p => if p.1.length ≤ lim then some (.tup p.1, p.2) else none
  | .lst es, env => (evs Γ ios es env).bind fun p => if p.1.length ≤ lim then some (.lst true p.1, p.2) else none
  | .bin op a b, env => (ev Γ ios a env).bind fun p => (ev Γ ios b p.2).bind fun q => (binD op p.1 q.1).map fun d => (d, q.2)
  | .neg a, env => (ev Γ ios a env).bind fun p => match p.1 with | .int i => some (.int (-i), p.2) | _ => none
  | .not a, env => (ev Γ ios a env).bind fun p => match p.1 with | .bl b => some (.bl (!b), p.2) | _ => none
  | .cmp op a b, env => (ev Γ ios a env).bind fun p => (ev Γ ios b p.2).bind fun q => (cmpD op p.1 q.1).map fun d => (.bl d, q.2)
  | .chain o1 o2 a b c, env => (ev Γ ios a env).bind fun p => (ev Γ ios b p.2).bind fun q => match p.1, q.1 with
    | .int i, .int j => (cmpD o1 (.int i) (.int j)).bind fun d => match d with
      | true => (ev Γ ios c q.2).bind fun r => match r.1 with | .int k => (cmpD o2 (.int j) (.int k)).map fun e => (.bl e, r.2) | _ => none
      | false => some (.bl false, q.2)
    | _, _ => none
  | .and es, env => evAnd Γ ios es env
  | .or es, env => evOr Γ ios es env
  | .ite c a b, env => (ev Γ ios c env).bind fun p => match p.1 with | .bl true => ev Γ ios a p.2 | .bl false => ev Γ ios b p.2 | _ => none
  | .sub a i, env => (ev Γ ios a env).bind fun p => (ev Γ ios i p.2).bind fun q => (subD p.1 q.1).map fun d => (d, q.2)
  | .slc a fl lo fh hi, env => (ev Γ ios a env).bind fun p => (if fl then (ev Γ ios lo p.2).bind fun q => match q.1 with | .int k => some (some k, q.2) | _ => none else some (none, p.2)).bind fun q =>
    (if fh then (ev Γ ios hi q.2).bind fun r => match r.1 with | .int k => some (some k, r.2) | _ => none else some (none, q.2)).bind fun r => (slcD p.1 q.1 r.1).map fun d => (d, r.2)
  | .rvs a, env => (ev Γ ios a env).bind fun p => match p.1 with | .lst _ xs => some (.lst true xs.reverse, p.2) | _ => none
  | .call f as, env => (evA Γ ios as env).bind fun p => (fillA as p.1 p.2).bind fun q => (Γ f q.1).bind fun r =>
    if hasBw as && !(closed r.1 && (iosOf as r.2).all closed) then none else (backA as r.2 q.2).map fun env' => (r.1, env')
  | .callK f as js ix, env => (evA Γ ios as env).bind fun p => (fillA as p.1 p.2).bind fun q => (Γ f (permD js q.1)).bind fun r => (backA as (permD ix r.2) q.2).map fun env' => (r.1, env')
  | .blt b es, env => (evs Γ ios es env).bind fun p => (bltD b p.1).map fun d => (d, p.2)
  | .isI a ts, env => (ev Γ ios a env).bind fun p => (isTys p.1 ts).map fun b => (.bl b, p.2)
  | .comp own elt tg it c cond, env => (evI Γ ios it env).bind fun p =>
    (turns (fun env d => (bindT ios tg d env).bind fun env1 => match c with
      | none => (ev Γ ios elt env1).map fun q => (some q.1, wipeD q.2 own)
      | some _ => (ev Γ ios cond env1).bind fun q => match q.1 with
        | .bl true => (ev Γ ios elt q.2).map fun q => (some q.1, wipeD q.2 own)
        | .bl false => some (none, wipeD q.2 own)
        | _ => none) p.1 (wipeD p.2.1 own) []).map fun q => (.lst true q.1, putD p.2.2 (backD q.2 p.2.1 own))
  | .comp2 own own2 elt tg it tg2 it2, env => (evI Γ ios it env).bind fun p =>
    (turns2 (fun env d acc => (bindT ios tg d env).bind fun env1 => (evI Γ ios it2 env1).bind fun p2 =>
      (turns (fun env d => (bindT ios tg2 d env).bind fun env1 => (ev Γ ios elt env1).map fun q => (some q.1, wipeD q.2 own2)) p2.1 (wipeD p2.2.1 own2) acc).map fun q => (q.1, wipeD (putD p2.2.2 (backD q.2 p2.2.1 own2)) own)) p.1 (wipeD p.2.1 own) []).bind fun q => if q.1.length ≤ lim then some (.lst true q.1, putD p.2.2 (backD q.2 p.2.1 own)) else none
  | .eqp i xs j ys neg, env => (place env i xs).bind fun d => (place env j ys).bind fun e => (eqD d e).map fun b => (.bl (b != neg), env)
  | .srtp i xs, env => (place env i xs).bind fun d => (bltD .sorted [d]).map fun r => (r, env)
  | .inp i xs j ys neg, env => (place env i xs).bind fun d => (place env j ys).bind fun e => (cmpD .isIn d e).map fun b => (.bl (b != neg), env)
  | .nonp i xs neg, env => (place env i xs).bind fun d => (isNon d).map fun b => (.bl (b != neg), env)
  | .catp i xs j ys, env => (place env i xs).bind fun d => (place env j ys).bind fun e => (catD d e).map fun r => (r, env)
  | .lrg1 a, env => (ev Γ ios a env).bind fun p => match p.1 with | .int n => (rngs 0 n).map fun xs => (.lst true xs, p.2) | _ => none
  | .lrg2 a b, env => (ev Γ ios a env).bind fun p => (ev Γ ios b p.2).bind fun q => match p.1, q.1 with | .int m, .int n => (rngs m n).map fun xs => (.lst true xs, q.2) | _, _ => none
  | .pop i es, env => (getV env i).bind fun d0 => match d0 with
    | .lst true _ => (evs Γ ios es env).bind fun p => match p.1, getV p.2 i with
      | [], some (.lst true xs) => (xs.getLast?).map fun d => (d, p.2.set i (.lst true xs.dropLast))
      | [.int k], some (.lst true xs) => if small k then (ixN xs.length k).bind fun j => (xs[j]?).map fun d => (d, p.2.set i (.lst true (xs.eraseIdx j))) else none
      | _, _ => none
    | _ => none
def evAnd (Γ : Fns) (ios : List Nat) : Es → List D → Option (D × List D)
  | .nil, env => some (.bl true, env)
  | .cons e es, env => (ev Γ ios e env).bind fun p => match p.1 with | .bl true => evAnd Γ ios es p.2 | .bl false => some (.bl false, p.2) | _ => none
def evOr (Γ : Fns) (ios : List Nat) : Es → List D → Option (D × List D)
  | .nil, env => some (.bl false, env)
  | .cons e es, env => (ev Γ ios e env).bind fun p => match p.1 with | .bl false => evOr Γ ios es p.2 | .bl true => some (.bl true, p.2) | _ => none
def evs (Γ : Fns) (ios : List Nat) : Es → List D → Option (List D × List D)
  | .nil, env => some ([], env)
  | .cons e es, env => (ev Γ ios e env).bind fun p => (evs Γ ios es p.2).map fun q => (p.1 :: q.1, q.2)
def evA (Γ : Fns) (ios : List Nat) : As → List D → Option (List D × List D)
  | .nil, env => some ([], env)
  | .ex e r, env => (ev Γ ios e env).bind fun p => (evA Γ ios r p.2).map fun q => (p.1 :: q.1, q.2)
  | .io i r, env => (getV env i).bind fun _ => (evA Γ ios r env).map fun q => (.hole :: q.1, q.2)
  | .bw i r, env => (getV env i).bind fun _ => (evA Γ ios r env).map fun q => (.hole :: q.1, q.2)
/-- the items, the slots ahead of the turns, what is put back behind them -/
def evI (Γ : Fns) (ios : List Nat) : It → List D → Option (List D × List D × Option (Nat × D))
  | .e a, env => (ev Γ ios a env).bind fun p => (seqD p.1).map fun xs => (xs, p.2, none)
  | .bor i, env => (getV env i).bind fun d => (seqD d).bind fun xs => if xs.all noOwn then some (xs, env.set i .hole, some (i, d)) else none
  | .rng1 a, env => (ev Γ ios a env).bind fun p => match p.1 with | .int n => (rngs 0 n).map fun xs => (xs, p.2, none) | _ => none
  | .rng2 a b, env => (ev Γ ios a env).bind fun p => (ev Γ ios b p.2).bind fun q => match p.1, q.1 with | .int m, .int n => (rngs m n).map fun xs => (xs, q.2, none) | _, _ => none
  | .enum a, env => (ev Γ ios a env).bind fun p => (seqD p.1).map fun xs => (enumD xs, p.2, none)
  | .enumB i, env => (getV env i).bind fun d => (seqD d).bind fun xs => if xs.all noOwn then some (enumD xs, env.set i .hole, some (i, d)) else none
  | .rev a, env => (ev Γ ios a env).bind fun p => (lstD p.1).bind fun xs => if xs.all noOwn then some (xs.reverse, p.2, none) else none
end

/-- a list stands below a tree, down a path -/
def isLstAt (env : List D) (d : D) (xs : List Ix) : Bool := match getP env d xs.reverse with | some (.lst _ _) => true | _ => false
inductive Fl | nx (env : List D) | rt (d : D) (env : List D) | bk (env : List D) | ct (env : List D)
def loopF (step : List D → D → Option Fl) : List D → List D → Option Fl
  | [], env => some (.nx env)
  | d :: ds, env => match step env d with
    | none => none
    | some (.nx env') => loopF step ds env'
    | some (.ct env') => loopF step ds env'
    | some (.bk env') => some (.nx env')
    | some (.rt v env') => some (.rt v env')
def loopW (test : List D → Option (D × List D)) (step : List D → Option Fl) : Nat → List D → Option Fl
  | 0, _ => none
  | n + 1, env => match test env with
    | some (.bl false, env') => some (.nx env')
    | some (.bl true, env') => match step env' with
      | none => none
      | some (.nx e) => loopW test step n e
      | some (.ct e) => loopW test step n e
      | some (.bk e) => some (.nx e)
      | some (.rt v e) => some (.rt v e)
    | _ => none
def wfuel : Nat := 1000000
mutual
def ex (Γ : Fns) (ios : List Nat) : S → List D → Option Fl
  | .asg i e, env => if i ∈ ios then none else (ev Γ ios e env).map fun p => .nx (p.2.set i p.1)
  | .par i j a b, env => if i ∈ ios ∨ j ∈ ios ∨ i = j then none else (ev Γ ios a env).bind fun p => (ev Γ ios b p.2).map fun q => .nx ((q.2.set i p.1).set j q.1)
  | .unp is e, env => (ev Γ ios e env).bind fun p => (bindT ios (.tp is) p.1 p.2).map .nx
  | .seti i xs k e, env => (ev Γ ios e env).bind fun p => (getV p.2 i).bind fun d0 => if isLstAt p.2 d0 xs = false then none else (ev Γ ios k p.2).bind fun q => match q.1 with
    | .int k => (getV q.2 i).bind fun d => (setP q.2 (fun ds => (ixN ds.length k).map fun j => ds.set j p.1) d xs).map fun d' => .nx (q.2.set i d')
    | _ => none
  | .app i xs e, env => (getV env i).bind fun d0 => if isLstAt env d0 xs then (ev Γ ios e env).bind fun p => (getV p.2 i).bind fun d => (setP p.2 (fun ds => if ds.length < lim then some (ds ++ [p.1]) else none) d xs).map fun d' => .nx (p.2.set i d') else none
  | .ex e, env => (ev Γ ios e env).map fun p => .nx p.2
  | .ite c a b, env => (ev Γ ios c env).bind fun p => match p.1 with | .bl true => exs Γ ios a p.2 | .bl false => exs Γ ios b p.2 | _ => none
  | .for_ tg it body, env => (evI Γ ios it env).bind fun p =>
    (loopF (fun env d => (bindT (putI p.2.2 ++ ios) tg d env).bind fun env1 => exs Γ (putI p.2.2 ++ ios) body env1) p.1 p.2.1).map fun f => match f with | .nx e => .nx (putD p.2.2 e) | .rt d e => .rt d (putD p.2.2 e) | f => f
  | .whil c body, env => loopW (ev Γ ios c) (exs Γ ios body) wfuel env
  | .ret e, env => (ev Γ ios e env).map fun p => .rt p.1 p.2
  | .retN, env => some (.rt .non env)
  | .pass, env => some (.nx env)
  | .brk, env => some (.bk env)
  | .cnt, env => some (.ct env)
  | .no, _ => none
def exs (Γ : Fns) (ios : List Nat) : Ss → List D → Option Fl
  | .nil, env => some (.nx env)
  | .cons s r, env => match ex Γ ios s env with
    | none => none
    | some (.nx env') => exs Γ ios r env'
    | some f => some f
end
/-- a def: parameters, slots, the parameters that it changes, body -/
structure Fd where
  np : Nat
  nl : Nat
  ios : List Nat
  body : Ss
/-- the changed parameters -/
def outsOf (ios : List Nat) (np : Nat) (env : List D) : List D := (List.range np).map fun j => if j ∈ ios then env.getD j .hole else .hole
/-- what a def may not change it gets as shared -/
def shP (ios : List Nat) : Nat → List D → List D
  | _, [] => []
  | k, d :: ds => (if k ∈ ios then d else share d) :: shP ios (k + 1) ds
def runF (Γ : Fns) (f : Fd) (args : List D) : Option (D × List D) :=
  if args.length = f.np then match exs Γ f.ios f.body (shP f.ios 0 args ++ List.replicate (f.nl - f.np) .hole) with
    | some (.rt d env) => some (d, outsOf f.ios f.np env)
    | some (.nx env) => some (.non, outsOf f.ios f.np env)
    | _ => none
  else none
/-- the program's defs, so many calls deep -/
def evF (P : List Fd) : Nat → Fns
  | 0, _, _ => none
  | n + 1, f, args => match P[f]? with | some fd => runF (evF P n) fd args | none => none
end
end OE

/-! Oe2: the operations on data trees are those of the hand layer. -/
namespace OE
open PySem PySem.Spec PyProof.Rows L2

section
variable {K : PySem.W.Frag} {F : Addr → Prop} {H H1 H2 H' : Hp} {O O1 O2 O' O1' : List Addr} {P P' R env env' : List D} {pv pv' rv σ σ' : List (Option V)} {d : D} {v : V} {ds : List D} {vs : List V} {p : Addr}

/-- run on the tail, the head kept -/
theorem St.tail (st : St K F H (P ++ R) (pv ++ rv) O) (hl : pv.length = P.length) : ∃ OP OR, O = OP ++ OR ∧ St K (fun x => F x ∨ x ∈ OP) H R rv OR ∧
    ∀ R' rv' OR' H', Ext OR H OR' H' → St K (fun x => F x ∨ x ∈ OP) H' R' rv' OR' → Ext O H (OP ++ OR') H' ∧ St K F H' (P ++ R') (pv ++ rv') (OP ++ OR') := by
  obtain ⟨sl, sr, O1, O2, e, rfl, hl', s1, s2⟩ := st.split
  obtain ⟨rfl, rfl⟩ : pv = sl ∧ rv = sr := List.append_inj e (by omega)
  refine ⟨O1, O2, rfl, s2, fun R' rv' OR' H' ex s2' => ⟨ex.frame', ?_⟩⟩
  exact (St.other s2 s1 ex s2').join s2'
/-- run on the head, the tail kept -/
theorem St.head (st : St K F H (P ++ R) (pv ++ rv) O) (hl : pv.length = P.length) : ∃ OP OR, O = OP ++ OR ∧ St K (fun x => F x ∨ x ∈ OR) H P pv OP ∧
    ∀ P' pv' OP' H', Ext OP H OP' H' → St K (fun x => F x ∨ x ∈ OR) H' P' pv' OP' → Ext O H (OP' ++ OR) H' ∧ St K F H' (P' ++ R) (pv' ++ rv) (OP' ++ OR) := by
  obtain ⟨sl, sr, O1, O2, e, rfl, hl', s1, s2⟩ := st.split
  obtain ⟨rfl, rfl⟩ : pv = sl ∧ rv = sr := List.append_inj e (by omega)
  refine ⟨O1, O2, rfl, s1, fun P' pv' OP' H' ex s1' => ⟨ex.frame, ?_⟩⟩
  exact s1'.join (St.other s1 s2 ex s1')
theorem St.sub (st : St K F H env σ O) (r : RepS K (fun a => F a ∨ a ∈ O) H env' σ' O1) (nd : O1.Nodup) (hs : ∀ a ∈ O1, a ∈ O) : St K F H env' σ' O1 :=
  ⟨nd, fun a ha => st.nf a (hs a ha), st.fh, r.move (fun _ _ e _ => e) fun a hn _ z => hn (z.imp_right (hs a))⟩
theorem St.one (st : St K F H env σ O) (r : Rep K (fun a => F a ∨ a ∈ O) H d v O1) (nd : O1.Nodup) (hs : ∀ a ∈ O1, a ∈ O) : St K F H [d] [some v] O1 :=
  st.sub ⟨some v, [], O1, [], rfl, by simp, .inr ⟨v, rfl, r⟩, rfl, rfl⟩ nd hs
theorem St.rep1 (st : St K F H [d] [some v] O) : Rep K (fun a => F a ∨ a ∈ O) H d v O := by
  obtain ⟨ov, σ', O1, O2, e1, e2, r1, e3, e4⟩ := st.rep
  obtain ⟨rfl, rfl⟩ : some v = ov ∧ [] = σ' := by simpa using e1
  subst e4
  rw [List.append_nil] at e2
  subst e2
  rcases r1 with ⟨rfl, rfl⟩ | ⟨w, e, r⟩
  · simp [Rep]
  · cases e; exact r
theorem St.rep2 {a b : D} {x y : V} (st : St K F H [a, b] [some x, some y] O) : ∃ O1 O2, O = O1 ++ O2 ∧ Rep K (fun a => F a ∨ a ∈ O) H a x O1 ∧ Rep K (fun a => F a ∨ a ∈ O) H b y O2 := by
  obtain ⟨ov, σ', O1, O2, e1, e2, r1, ov2, σ2, O3, O4, e3, e4, r2, e5, e6⟩ := st.rep
  have e1' : some x = ov ∧ [some y] = σ' := by simpa using e1
  obtain ⟨rfl, rfl⟩ := e1'
  have e3' : some y = ov2 ∧ [] = σ2 := by simpa using e3
  obtain ⟨rfl, rfl⟩ := e3'
  subst e6
  rw [List.append_nil] at e4
  subst e4
  refine ⟨O1, O2, e2, ?_, ?_⟩
  · rcases r1 with ⟨rfl, rfl⟩ | ⟨w, e, r⟩
    · simp [Rep]
    · cases e; exact r
  · rcases r2 with ⟨rfl, rfl⟩ | ⟨w, e, r⟩
    · simp [Rep]
    · cases e; exact r
theorem St.reps (st : St K F H ds (vs.map some) O) : RepL K (fun a => F a ∨ a ∈ O) H ds vs O := RepS.toL st.rep
theorem nd_sub {α : Type} {a b c : List α} (h : (a ++ (b ++ c)).Nodup) : b.Nodup := by
  have := (List.nodup_append.mp h).2.1
  exact (List.nodup_append.mp this).1
/-- a new list of things that stand -/
theorem St.mkL (st : St K F H env σ O) (r : RepL K (fun a => F a ∨ a ∈ O) H ds vs O1) (nd : O1.Nodup) (hs : ∀ a ∈ O1, a ∈ O) (hl : ds.length ≤ sizeLine) (hp : H p = none) :
    Ext O H (p :: O1) (upd H p (.lst vs)) ∧ St K F (upd H p (.lst vs)) [.lst true ds] [some (.ref p)] (p :: O1) := by
  have hpO : p ∉ O := fun z => by obtain ⟨xs, e⟩ := st.own p z; rw [hp] at e; cases e
  refine ⟨(Ext.new hp).less fun c hc => ?_, ⟨List.nodup_cons.mpr ⟨fun z => hpO (hs p z), nd⟩, fun a ha => ?_, fun a ha => ?_, ?_⟩⟩
  · rcases List.mem_cons.mp hc with rfl | hc
    · exact List.mem_cons_self
    · exact List.mem_cons_of_mem _ (hs c hc)
  · rcases List.mem_cons.mp ha with rfl | ha
    · exact fun z => st.fh _ z hp
    · exact st.nf a (hs a ha)
  · by_cases e : a = p
    · subst e; rw [upd_same]; simp
    · rw [upd_ne e]; exact st.fh a ha
  · refine ⟨some (.ref p), [], p :: O1, [], rfl, by simp, .inr ⟨_, rfl, ?_⟩, rfl, rfl⟩
    simp only [Rep]
    refine ⟨p, vs, O1, rfl, rfl, upd_same, hl, RepL.move ds r (fun a o e _ => by rw [upd_ne (ne_of_none e hp)]; exact e) fun a hn hh z => ?_⟩
    rcases z with z | z
    · exact hn (.inl z)
    · rcases List.mem_cons.mp z with rfl | z
      · exact hh hp
      · exact hn (.inr (hs a z))
theorem St.mkT (st : St K F H env σ O) (r : RepL K (fun a => F a ∨ a ∈ O) H ds vs O1) (nd : O1.Nodup) (hs : ∀ a ∈ O1, a ∈ O) (hl : ds.length ≤ sizeLine) (hp : H p = none) :
    Ext O H O1 (upd H p (.tup vs)) ∧ St K F (upd H p (.tup vs)) [.tup ds] [some (.ref p)] O1 := by
  have hpO : p ∉ O := fun z => by obtain ⟨xs, e⟩ := st.own p z; rw [hp] at e; cases e
  refine ⟨(Ext.newT hp).less hs, ⟨nd, fun a ha => st.nf a (hs a ha), fun a ha => ?_, ?_⟩⟩
  · by_cases e : a = p
    · subst e; rw [upd_same]; simp
    · rw [upd_ne e]; exact st.fh a ha
  · refine ⟨some (.ref p), [], O1, [], rfl, by simp, .inr ⟨_, rfl, ?_⟩, rfl, rfl⟩
    simp only [Rep]
    refine ⟨p, vs, rfl, .inl (.inl upd_same), hl, RepL.move ds r (fun a o e _ => by rw [upd_ne (ne_of_none e hp)]; exact e) fun a hn hh z => ?_⟩
    exact hn (z.imp_right (hs a))
/-- a scalar -/
theorem St.flat (st : St K F H env σ O) (r : ∀ A, Rep K A H d v []) : Ext O H [] H ∧ St K F H [d] [some v] [] :=
  ⟨Ext.refl.less (fun _ h => nomatch h), st.one (r _) List.nodup_nil fun _ h => nomatch h⟩
end

/-! ### what is asked of a value, of two values -/
abbrev wpD (K : PySem.W.Frag) (F : Addr → Prop) (O : List Addr) (H : Hp) (d : D) (Q : VK) : Prop := ∀ v H' O', Ext O H O' H' → St K F H' [d] [some v] O' → Q v H'
def rD1 (K : PySem.W.Frag) (f : D → Option D) : V → Hp → VK → Prop := fun x H Q => ∃ F a O d, St K F H [a] [some x] O ∧ f a = some d ∧ wpD K F O H d Q
def rD2 (K : PySem.W.Frag) (f : D → D → Option D) : R2 := fun x y H Q => ∃ F a b O d, St K F H [a, b] [some x, some y] O ∧ f a b = some d ∧ wpD K F O H d Q
def rDs (K : PySem.W.Frag) (f : List D → Option D) : List V → Hp → VK → Prop := fun xs H Q => ∃ F ds O d, St K F H ds (xs.map some) O ∧ f ds = some d ∧ wpD K F O H d Q
def tE (K : PySem.W.Frag) (m : List D → Option (D × List D)) : TE := fun σ H Q => ∃ F env O d env', St K F H env σ O ∧ m env = some (d, env') ∧
  ∀ v H' O', Ext O H O' H' → St K F H' (d :: env') (some v :: σ) O' → Q v H'
def tA (K : PySem.W.Frag) (m : List D → Option (List D × List D)) : TA := fun σ H Q => ∃ F env O ds env', St K F H env σ O ∧ m env = some (ds, env') ∧
  ∀ vs H' O', Ext O H O' H' → St K F H' (ds ++ env') (vs.map some ++ σ) O' → ds.length = vs.length → Q vs H'

section
variable {K : PySem.W.Frag}
theorem _root_.L2.PE.imp {X : Cx} {e : Expr} {t t' : TE} (h : PE X e t) (i : ∀ σ H Q, t' σ H Q → t σ H Q) : PE X e t' := ⟨fun pins s σ H Q I w => h.run pins s σ H Q I (i σ H Q w)⟩
theorem _root_.L2.PT.imp {X : Cx} {e : Expr} {t t' : TT} (h : PT X e t) (i : ∀ σ H Q, t' σ H Q → t σ H Q) : PT X e t' := ⟨fun pins s σ H Q I w => h.run pins s σ H Q I (i σ H Q w)⟩
/-- two values in a row, then an operation -/
theorem tE_two {ma mb : List D → Option (D × List D)} {f : D → D → Option D} {σ : L2.St} {H : Hp} {Q : VK}
    (h : tE K (fun env => (ma env).bind fun p => (mb p.2).bind fun q => (f p.1 q.1).map fun d => (d, q.2)) σ H Q) : tOp (rD2 K f) (tE K ma) (tE K mb) σ H Q := by
  obtain ⟨F, env, O, d, env', st, e, post⟩ := h
  obtain ⟨⟨a, env1⟩, e1, e⟩ := Option.bind_eq_some_iff.mp e
  obtain ⟨⟨b, env2⟩, e2, e⟩ := Option.bind_eq_some_iff.mp e
  obtain ⟨d', e3, e⟩ := Option.map_eq_some_iff.mp e
  cases e
  refine ⟨F, env, O, a, env1, st, e1, fun x H1 O1 ex1 st1 => ?_⟩
  obtain ⟨OP, OR, rfl, st1', back1⟩ := St.tail (P := [a]) (pv := [some x]) st1 rfl
  refine ⟨_, env1, OR, b, env2, st1', e2, fun y H2 O2 ex2 st2 => ?_⟩
  obtain ⟨ex2', st2'⟩ := back1 _ _ _ _ ex2 st2
  obtain ⟨OP2, OR2, e4, st3, back2⟩ := St.head (P := [a, b]) (pv := [some x, some y]) st2' rfl
  refine ⟨_, a, b, OP2, _, st3, e3, fun v H3 O3 ex3 st3' => ?_⟩
  obtain ⟨ex4, st4⟩ := back2 _ _ _ _ ex3 st3'
  exact post v H3 _ (ex1.trans (ex2'.trans ex4)) st4
theorem tE_one {ma : List D → Option (D × List D)} {f : D → Option D} {σ : L2.St} {H : Hp} {Q : VK}
    (h : tE K (fun env => (ma env).bind fun p => (f p.1).map fun d => (d, p.2)) σ H Q) : tUn (rD1 K f) (tE K ma) σ H Q := by
  obtain ⟨F, env, O, d, env', st, e, post⟩ := h
  obtain ⟨⟨a, env1⟩, e1, e⟩ := Option.bind_eq_some_iff.mp e
  obtain ⟨d', e3, e⟩ := Option.map_eq_some_iff.mp e
  cases e
  refine ⟨F, env, O, a, env1, st, e1, fun x H1 O1 ex1 st1 => ?_⟩
  obtain ⟨OP2, OR2, e4, st3, back2⟩ := St.head (P := [a]) (pv := [some x]) st1 rfl
  refine ⟨_, a, OP2, _, st3, e3, fun v H3 O3 ex3 st3' => ?_⟩
  obtain ⟨ex4, st4⟩ := back2 _ _ _ _ ex3 st3'
  exact post v H3 _ (ex1.trans ex4) st4
theorem tE_args {m : List D → Option (List D × List D)} {f : List D → Option D} {σ : L2.St} {H : Hp} {Q : VK}
    (h : tE K (fun env => (m env).bind fun p => (f p.1).map fun d => (d, p.2)) σ H Q) : tCB (rDs K f) (tA K m) σ H Q := by
  obtain ⟨F, env, O, d, env', st, e, post⟩ := h
  obtain ⟨⟨ds, env1⟩, e1, e⟩ := Option.bind_eq_some_iff.mp e
  obtain ⟨d', e3, e⟩ := Option.map_eq_some_iff.mp e
  cases e
  refine ⟨F, env, O, ds, env1, st, e1, fun xs H1 O1 ex1 st1 hl => ?_⟩
  obtain ⟨OP2, OR2, e4, st3, back2⟩ := St.head (P := ds) (pv := xs.map some) st1 (by rw [List.length_map, hl])
  refine ⟨_, ds, OP2, _, st3, e3, fun v H3 O3 ex3 st3' => ?_⟩
  obtain ⟨ex4, st4⟩ := back2 _ _ _ _ ex3 st3'
  exact post v H3 _ (ex1.trans ex4) st4
theorem tA_nil {σ : L2.St} {H : Hp} {Q : List V → Hp → Prop} (h : tA K (fun env => some ([], env)) σ H Q) : tNil σ H Q := by
  obtain ⟨F, env, O, ds, env', st, e, post⟩ := h
  cases e
  exact post [] H O Ext.refl st rfl
theorem tA_cons {me : List D → Option (D × List D)} {m : List D → Option (List D × List D)} {σ : L2.St} {H : Hp} {Q : List V → Hp → Prop}
    (h : tA K (fun env => (me env).bind fun p => (m p.2).map fun q => (p.1 :: q.1, q.2)) σ H Q) : tCons (tE K me) (tA K m) σ H Q := by
  obtain ⟨F, env, O, ds, env', st, e, post⟩ := h
  obtain ⟨⟨a, env1⟩, e1, e⟩ := Option.bind_eq_some_iff.mp e
  obtain ⟨⟨bs, env2⟩, e2, e⟩ := Option.map_eq_some_iff.mp e
  cases e
  refine ⟨F, env, O, a, env1, st, e1, fun x H1 O1 ex1 st1 => ?_⟩
  obtain ⟨OP, OR, rfl, st1', back1⟩ := St.tail (P := [a]) (pv := [some x]) st1 rfl
  refine ⟨_, env1, OR, bs, env2, st1', e2, fun ys H2 O2 ex2 st2 hl => ?_⟩
  obtain ⟨ex2', st2'⟩ := back1 _ _ _ _ ex2 st2
  exact post (x :: ys) H2 _ (ex1.trans ex2') st2' (by simp [hl])
end
end OE

/-! Oe3: operators and built-in functions. -/
namespace OE
open PySem PySem.Spec PyProof.Rows L2

section
variable {K : PySem.W.Frag} {A : Addr → Prop} {F : Addr → Prop} {H : Hp} {O O1 O2 : List Addr} {env : List D} {σ : List (Option V)} {d : D} {v x y : V} {ds : List D} {vs : List V} {Q : VK}
theorem Rep.seq {o : Bool} (r : Rep K A H (.lst o ds) v O) : ∃ a vs Oi, v = .ref a ∧ H a = some (.lst vs) ∧ ds.length ≤ sizeLine ∧ RepL K A H ds vs Oi ∧ Oi.Sublist O := by
  cases o with
  | false =>
    simp only [Rep] at r
    obtain ⟨rfl, a, vs, e, hq, hl, r⟩ := r
    exact ⟨a, vs, [], e, hq.1, hl, r, List.Sublist.refl _⟩
  | true =>
    simp only [Rep] at r
    obtain ⟨a, vs, O', rfl, e, hq, hl, r⟩ := r
    exact ⟨a, vs, O', e, hq, hl, r, List.sublist_cons_self _ _⟩
theorem Rep.tupE (r : Rep K A H (.tup ds) v O) : ∃ a vs, v = .ref a ∧ SqT K H a vs ∧ ds.length ≤ sizeLine ∧ RepL K A H ds vs O := by
  simpa only [Rep] using r
theorem Rep.intE {i : Int} (r : Rep K A H (.int i) v O) : v = .int i ∧ O = [] := by simpa only [Rep] using r
theorem Rep.blE {i : Bool} (r : Rep K A H (.bl i) v O) : v = .bl i ∧ O = [] := by simpa only [Rep] using r
theorem Rep.strE {i : Str} (r : Rep K A H (.str i) v O) : v = .str i ∧ O = [] := by simpa only [Rep] using r
theorem Rep.nonE (r : Rep K A H .non v O) : v = .non ∧ O = [] := by simpa only [Rep] using r
theorem KL.seq {a : Addr} (h : KL K a vs) : SqL K H a vs := .inr h
theorem Rep.scrE {ns : List Int} (r : Rep K A H (.scr ns) v O) : O = [] ∧ ∃ a, v = .ref a ∧ SqL K H a (ns.map V.int) ∧ ((∃ o, H a = some (.frz o (.lst (ns.map V.int)))) ∨ KL K a (ns.map V.int)) := by
  simp only [Rep] at r
  obtain ⟨e, a, e1, h⟩ := r
  refine ⟨e, a, e1, ?_, h⟩
  rcases h with ⟨o, h⟩ | h
  · exact .inl (.inr ⟨o, h⟩)
  · exact .inr h
theorem RepL.append : ∀ {a b : List D} {s t : List V} {P Q : List Addr}, RepL K A H a s P → RepL K A H b t Q → RepL K A H (a ++ b) (s ++ t) (P ++ Q)
  | [], b, s, t, P, Q, r1, r2 => by
    simp only [RepL, Rep.RepL] at r1
    obtain ⟨rfl, rfl⟩ := r1
    exact r2
  | d :: ds, b, s, t, P, Q, r1, r2 => by
    simp only [RepL, Rep.RepL] at r1
    obtain ⟨v, vs', O1, O2, rfl, rfl, r1, r3⟩ := r1
    simp only [RepL, List.cons_append, Rep.RepL]
    exact ⟨v, _, O1, _, rfl, by rw [List.append_assoc], r1, RepL.append r3 r2⟩
theorem RepL.ints : ∀ {ns : List Int} {vs : List V} {O : List Addr}, RepL K A H (ns.map D.int) vs O → vs = ns.map V.int ∧ O = []
  | [], vs, O, r => by simpa only [RepL, List.map_nil, Rep.RepL] using r
  | n :: ns, vs, O, r => by
    simp only [RepL, List.map_cons, Rep.RepL, Rep] at r
    obtain ⟨v, vs', O1, O2, rfl, rfl, ⟨rfl, rfl⟩, r⟩ := r
    obtain ⟨rfl, rfl⟩ := RepL.ints r
    exact ⟨rfl, rfl⟩
theorem RepL.ofInts : ∀ (ns : List Int), RepL K A H (ns.map D.int) (ns.map V.int) []
  | [] => by simp [RepL, Rep.RepL]
  | n :: ns => by
    simp only [RepL, List.map_cons, Rep.RepL, Rep]
    exact ⟨_, _, [], [], rfl, rfl, ⟨rfl, rfl⟩, RepL.ofInts ns⟩
theorem allInts_eq : ∀ {ds : List D} {ns : List Int}, allInts ds = some ns → ds = ns.map D.int
  | [], ns, h => by simp only [allInts, Option.some.injEq] at h; subst h; rfl
  | d :: ds, ns, h => by
    cases d <;> simp only [allInts, Option.map_eq_some_iff, reduceCtorEq] at h
    obtain ⟨ms, h1, rfl⟩ := h
    rw [List.map_cons, allInts_eq h1]
theorem RepL.bls : ∀ {ns : List Bool} {vs : List V} {O : List Addr}, RepL K A H (ns.map D.bl) vs O → vs = ns.map V.bl ∧ O = []
  | [], vs, O, r => by simpa only [RepL, List.map_nil, Rep.RepL] using r
  | n :: ns, vs, O, r => by
    simp only [RepL, List.map_cons, Rep.RepL, Rep] at r
    obtain ⟨v, vs', O1, O2, rfl, rfl, ⟨rfl, rfl⟩, r⟩ := r
    obtain ⟨rfl, rfl⟩ := RepL.bls r
    exact ⟨rfl, rfl⟩
theorem allBools_eq : ∀ {ds : List D} {ns : List Bool}, allBools ds = some ns → ds = ns.map D.bl
  | [], ns, h => by simp only [allBools, Option.some.injEq] at h; subst h; rfl
  | d :: ds, ns, h => by
    cases d <;> simp only [allBools, Option.map_eq_some_iff, reduceCtorEq] at h
    obtain ⟨ms, h1, rfl⟩ := h
    rw [List.map_cons, allBools_eq h1]
theorem RepL.at : ∀ {ds : List D} {vs : List V} {O : List Addr} {j : Nat} {d : D}, RepL K A H ds vs O → ds[j]? = some d → ∃ v Oj, vs[j]? = some v ∧ Rep K A H d v Oj ∧ Oj.Sublist O
  | [], _, _, j, d, _, h => by simp at h
  | e :: ds, vs, O, 0, d, r, h => by
    simp only [RepL, Rep.RepL] at r
    obtain ⟨v, vs', O1, O2, rfl, rfl, r1, r2⟩ := r
    simp only [List.getElem?_cons_zero, Option.some.injEq] at h
    subst h
    exact ⟨v, O1, rfl, r1, List.sublist_append_left _ _⟩
  | e :: ds, vs, O, j + 1, d, r, h => by
    simp only [RepL, Rep.RepL] at r
    obtain ⟨v, vs', O1, O2, rfl, rfl, r1, r2⟩ := r
    simp only [List.getElem?_cons_succ] at h
    obtain ⟨w, Oj, h1, h2, h3⟩ := RepL.at r2 h
    exact ⟨w, Oj, by simpa using h1, h2, h3.trans (List.sublist_append_right _ _)⟩
theorem RepL.atI {k : Int} {d : D} (r : RepL K A H ds vs O) (h : L2.atI ds k = some d) : ∃ v Oj, L2.atI vs k = some v ∧ Rep K A H d v Oj ∧ Oj.Sublist O := by
  unfold L2.atI at h ⊢
  rw [RepL.len r]
  obtain ⟨j, e1, e2⟩ := Option.bind_eq_some_iff.mp h
  obtain ⟨v, Oj, h1, h2, h3⟩ := RepL.at r e2
  exact ⟨v, Oj, by rw [e1]; exact h1, h2, h3⟩

/-! ends -/
theorem wp_int {n : Int} (st : St K F H env σ O) (post : wpD K F O H (.int n) Q) : Q (.int n) H :=
  let q := st.flat (d := .int n) (v := .int n) fun A => by simp [Rep]
  post _ _ _ q.1 q.2
theorem wp_bl {n : Bool} (st : St K F H env σ O) (post : wpD K F O H (.bl n) Q) : Q (.bl n) H :=
  let q := st.flat (d := .bl n) (v := .bl n) fun A => by simp [Rep]
  post _ _ _ q.1 q.2
theorem wp_non (st : St K F H env σ O) (post : wpD K F O H .non Q) : Q .non H :=
  let q := st.flat (d := .non) (v := .non) fun A => by simp [Rep]
  post _ _ _ q.1 q.2
theorem wp_one (st : St K F H env σ O) (r : Rep K (fun a => F a ∨ a ∈ O) H d v O1) (hs : O1.Sublist O) (post : wpD K F O H d Q) : Q v H :=
  post _ _ _ (Ext.refl.less fun c h => hs.subset h) (st.one r (st.nd.sublist hs) fun c h => hs.subset h)
theorem wp_lst (st : St K F H env σ O) (r : RepL K (fun a => F a ∨ a ∈ O) H ds vs O1) (hs : O1.Sublist O) (hl : ds.length ≤ sizeLine) (post : wpD K F O H (.lst true ds) Q) : ∀ p, H p = none → Q (.ref p) (upd H p (.lst vs)) := fun p hp =>
  let q := st.mkL r (st.nd.sublist hs) (fun c h => hs.subset h) hl hp
  post _ _ _ q.1 q.2
theorem wp_tup (st : St K F H env σ O) (r : RepL K (fun a => F a ∨ a ∈ O) H ds vs O1) (hs : O1.Sublist O) (hl : ds.length ≤ sizeLine) (post : wpD K F O H (.tup ds) Q) : ∀ p, H p = none → Q (.ref p) (upd H p (.tup vs)) := fun p hp =>
  let q := st.mkT r (st.nd.sublist hs) (fun c h => hs.subset h) hl hp
  post _ _ _ q.1 q.2
end

/-! ### data under == -/
section
variable {K : PySem.W.Frag} {A : Addr → Prop} {H : Hp}
theorem Rep.dp : ∀ (d : D) {v : V} {O : List Addr}, Rep K A H d v O → plainD d = true → Dp K H v (toPy d)
  | .hole, v, O, r, h => by simp [plainD] at h
  | .scr _, v, O, r, h => by simp [plainD] at h
  | .non, v, O, r, h => by obtain ⟨rfl, _⟩ := Rep.nonE r; exact .non
  | .bl b, v, O, r, h => by obtain ⟨rfl, _⟩ := Rep.blE r; exact .bl b
  | .int b, v, O, r, h => by obtain ⟨rfl, _⟩ := Rep.intE r; exact .int b
  | .str b, v, O, r, h => by obtain ⟨rfl, _⟩ := Rep.strE r; exact .str b
  | .tup ds, v, O, r, h => by
    obtain ⟨a, vs, rfl, ht, hl, r⟩ := Rep.tupE r
    simp only [plainD] at h
    exact .tup ht (dpL ds r h)
  | .lst o ds, v, O, r, h => by
    obtain ⟨a, vs, Oi, rfl, ht, hl, r, _⟩ := Rep.seq r
    simp only [plainD] at h
    exact .lst (.inl (.inl ht)) (dpL ds r h)
where dpL : ∀ (ds : List D) {vs : List V} {O : List Addr}, RepL K A H ds vs O → plainD.plainL ds = true → DpAll K H vs (toPy.toPyL ds)
  | [], vs, O, r, h => by simp only [RepL, Rep.RepL] at r; obtain ⟨rfl, _⟩ := r; exact .nil
  | d :: ds, vs, O, r, h => by
    simp only [RepL, Rep.RepL] at r
    obtain ⟨v, vs', O1, O2, rfl, rfl, r1, r2⟩ := r
    simp only [plainD.plainL, Bool.and_eq_true] at h
    exact .cons (Rep.dp d r1 h.1) (dpL ds r2 h.2)
theorem plain_lay : ∀ (d : D), plainD d = true → (toPy d).canLay0 = true
  | .hole, h => by simp [plainD] at h
  | .scr _, h => by simp [plainD] at h
  | .non, h => by simp [toPy, PyData.canLay0]
  | .bl b, h => by simp [toPy, PyData.canLay0]
  | .int b, h => by simp [toPy, PyData.canLay0]
  | .str b, h => by simpa [toPy, PyData.canLay0, plainD] using h
  | .tup ds, h => by simp only [plainD] at h; simp only [toPy, PyData.canLay0]; exact layL ds h
  | .lst o ds, h => by simp only [plainD] at h; simp only [toPy, PyData.canLay0]; exact layL ds h
where layL : ∀ (ds : List D), plainD.plainL ds = true → PyData.canLayAll0 (toPy.toPyL ds) = true
  | [], h => by simp [toPy.toPyL, PyData.canLayAll0]
  | d :: ds, h => by
    simp only [plainD.plainL, Bool.and_eq_true] at h
    simp only [toPy.toPyL, PyData.canLayAll0, Bool.and_eq_true]
    exact ⟨plain_lay d h.1, layL ds h.2⟩
theorem toPyL_map (ds : List D) : toPy.toPyL ds = ds.map toPy := by
  induction ds with
  | nil => rfl
  | cons d ds ih => simp [toPy.toPyL, ih]
theorem depthAll_le {n : Nat} : ∀ (ds : List PyData), (∀ d ∈ ds, d.depth ≤ n) → PyData.depthAll ds ≤ n
  | [], _ => by simp [PyData.depthAll]
  | d :: ds, h => by
    simp only [PyData.depthAll]
    exact Nat.max_le.mpr ⟨h d List.mem_cons_self, depthAll_le ds fun e he => h e (List.mem_cons_of_mem _ he)⟩
theorem within_depth : ∀ (n : Nat) (d : D), within n d = true → (toPy d).depth ≤ n
  | 0, d, h => by cases d <;> simp [within, toPy, PyData.depth] at h ⊢
  | n + 1, d, h => by
    cases d with
    | tup ds =>
      simp only [within, List.all_eq_true] at h
      simp only [toPy, PyData.depth, toPyL_map]
      refine Nat.succ_le_succ (depthAll_le _ fun e he => ?_)
      obtain ⟨d, hd, rfl⟩ := List.mem_map.mp he
      exact within_depth n d (h d hd)
    | lst o ds =>
      simp only [within, List.all_eq_true] at h
      simp only [toPy, PyData.depth, toPyL_map]
      refine Nat.succ_le_succ (depthAll_le _ fun e he => ?_)
      obtain ⟨d, hd, rfl⟩ := List.mem_map.mp he
      exact within_depth n d (h d hd)
    | _ => simp [toPy, PyData.depth]
end

section
variable {X : Cx}
def bopOf : BOp → Operator
  | .add => .Add | .sub => .Sub | .mul => .Mult | .fdiv => .FloorDiv | .mod => .Mod | .pow => .Pow | .band => .BitAnd | .shl => .LShift | .shr => .RShift
theorem lim_eq : lim = sizeLine := rfl
theorem op_powD : OpR X (binaryOp .Pow) (rI (fun i j => 0 ≤ j ∧ (Builtin.Int.intBits i : Int) * j ≤ 2 ^ 27) fun i j => .int (i ^ j.toNat)) := opI fun _ _ _ _ _ _ _ hc q => pow_int hc.1 hc.2 q
theorem mulOk_c {i j : Int} (h : mulOk i j = true) : CMulW i j := by
  unfold mulOk at h
  show i.natAbs.log2 + j.natAbs.log2 < 1000000
  exact chk_iff.mp h
theorem RepL.reps_ {K : PySem.W.Frag} {A : Addr → Prop} {H : Hp} {ds : List D} {vs : List V} (r : RepL K A H ds vs []) : ∀ n : Nat, RepL K A H (List.replicate n ds).flatten (List.replicate n vs).flatten []
  | 0 => by simp [RepL, Rep.RepL]
  | n + 1 => by
    rw [List.replicate_succ, List.replicate_succ, List.flatten_cons, List.flatten_cons]
    exact RepL.append (P := []) (Q := []) r (RepL.reps_ r n)
theorem op_binD (op : BOp) : OpR X (binaryOp (bopOf op)) (rD2 X.K (binD op)) := by
  intro pins s σ H x y v u Q I rx ry h
  obtain ⟨F, a, b, O, d, st, e, post⟩ := h
  obtain ⟨O1, O2, rfl, ra, rb⟩ := st.rep2
  cases op with
  | add =>
    cases a <;> cases b <;> simp only [binD, reduceCtorEq, Option.some.injEq, Option.ite_none_right_eq_some] at e
    · subst e
      obtain ⟨rfl, _⟩ := Rep.intE ra
      obtain ⟨rfl, _⟩ := Rep.intE rb
      exact op_add pins s σ H _ _ v u Q I rx ry ⟨_, _, rfl, rfl, wp_int st post⟩
    · rename_i xs ys
      obtain ⟨hl, rfl⟩ := e
      obtain ⟨a, vs, rfl, ha, hla, ra'⟩ := Rep.tupE ra
      obtain ⟨b, ws, rfl, hb, hlb, rb'⟩ := Rep.tupE rb
      have la := RepL.len ra'
      have lb := RepL.len rb'
      refine op_catA pins s σ H _ _ v u Q I rx ry ⟨a, b, vs, ws, rfl, rfl, ha, hb, by rw [la, lb]; exact hl, fun e => ?_, fun _ e => ?_, fun _ _ => ?_⟩
      · subst e
        have : xs = [] := List.eq_nil_of_length_eq_zero la.symm
        subst this
        exact wp_one st rb (List.sublist_append_right _ _) post
      · subst e
        have : ys = [] := List.eq_nil_of_length_eq_zero lb.symm
        subst this
        rw [List.append_nil] at post
        exact wp_one st ra (List.sublist_append_left _ _) post
      · exact wp_tup st (RepL.append ra' rb') (List.Sublist.refl _) (by rw [List.length_append]; exact hl) post
    · rename_i o xs o' ys
      obtain ⟨hl, rfl⟩ := e
      obtain ⟨a, vs, Oi, rfl, ha, hla, ra', sa⟩ := Rep.seq ra
      obtain ⟨b, ws, Oj, rfl, hb, hlb, rb', sb⟩ := Rep.seq rb
      have la := RepL.len ra'
      have lb := RepL.len rb'
      exact op_cat pins s σ H _ _ v u Q I rx ry ⟨a, b, vs, ws, rfl, rfl, ha, hb, by rw [la, lb]; exact hl, wp_lst st (RepL.append ra' rb') (sa.append sb) (by rw [List.length_append]; exact hl) post⟩
  | sub =>
    cases a <;> cases b <;> simp only [binD, reduceCtorEq, Option.some.injEq] at e
    subst e
    obtain ⟨rfl, _⟩ := Rep.intE ra
    obtain ⟨rfl, _⟩ := Rep.intE rb
    exact op_sub pins s σ H _ _ v u Q I rx ry ⟨_, _, rfl, rfl, wp_int st post⟩
  | mul =>
    cases a <;> cases b <;> simp only [binD, reduceCtorEq, Option.some.injEq, Option.ite_none_right_eq_some] at e
    · obtain ⟨hc, rfl⟩ := e
      obtain ⟨rfl, _⟩ := Rep.intE ra
      obtain ⟨rfl, _⟩ := Rep.intE rb
      exact op_mulW pins s σ H _ _ v u Q I rx ry ⟨_, _, rfl, rfl, mulOk_c hc, wp_int st post⟩
    · rename_i o xs k
      obtain ⟨hc, rfl⟩ := e
      unfold repOk at hc
      rw [Bool.and_eq_true, Bool.and_eq_true, Bool.and_eq_true, chk_iff, chk_iff, chk_iff] at hc
      obtain ⟨⟨⟨h1, h2⟩, h3⟩, h4⟩ := hc
      obtain ⟨a, vs, Oi, rfl, ha, hla, ra', sa⟩ := Rep.seq ra
      obtain ⟨rfl, _⟩ := Rep.intE rb
      have la := RepL.len ra'
      obtain rfl := Rep.nil.nilL xs ra' (by rw [noOwnL_all]; exact h1)
      refine op_rep pins s σ H _ _ v u Q I rx ry ⟨a, k, vs, rfl, rfl, ha, h2, h3, by rw [la]; exact h4, ?_⟩
      refine wp_lst st (RepL.reps_ ra' k.toNat) (List.nil_sublist _) ?_ post
      rw [List.length_flatten, List.map_replicate, List.sum_replicate_nat, Nat.mul_comm]
      exact h4
  | fdiv =>
    cases a <;> cases b <;> simp only [binD, reduceCtorEq, Option.some.injEq, Option.ite_none_right_eq_some] at e
    obtain ⟨hc, rfl⟩ := e
    obtain ⟨rfl, _⟩ := Rep.intE ra
    obtain ⟨rfl, _⟩ := Rep.intE rb
    unfold divOk at hc
    rw [Bool.and_eq_true] at hc
    exact op_fdivW pins s σ H _ _ v u Q I rx ry ⟨_, _, rfl, rfl, ⟨of_decide_eq_true hc.1, chk_iff.mp hc.2⟩, wp_int st post⟩
  | mod =>
    cases a <;> cases b <;> simp only [binD, reduceCtorEq, Option.some.injEq, Option.ite_none_right_eq_some] at e
    obtain ⟨hc, rfl⟩ := e
    obtain ⟨rfl, _⟩ := Rep.intE ra
    obtain ⟨rfl, _⟩ := Rep.intE rb
    exact op_mod pins s σ H _ _ v u Q I rx ry ⟨_, _, rfl, rfl, of_decide_eq_true hc, wp_int st post⟩
  | pow =>
    cases a <;> cases b <;> simp only [binD, reduceCtorEq, Option.some.injEq, Option.ite_none_right_eq_some] at e
    obtain ⟨hc, rfl⟩ := e
    obtain ⟨rfl, _⟩ := Rep.intE ra
    obtain ⟨rfl, _⟩ := Rep.intE rb
    unfold powOk at hc
    rw [Bool.and_eq_true] at hc
    exact op_powD pins s σ H _ _ v u Q I rx ry ⟨_, _, rfl, rfl, ⟨of_decide_eq_true hc.1, chk_iff.mp hc.2⟩, wp_int st post⟩
  | band => simp [binD] at e
  | shl => simp [binD] at e
  | shr => simp [binD] at e

/-- == of data trees -/
theorem op_eqT (hu : X.A.units + 64 < cLine) : OpR X (compareOp .Eq) (rD2 X.K fun a b => (eqD a b).map D.bl) := by
  intro pins s σ H x y v u Q I rx ry h
  obtain ⟨F, a, b, O, d, st, e, post⟩ := h
  obtain ⟨O1, O2, rfl, ra, rb⟩ := st.rep2
  obtain ⟨k, e', rfl⟩ := Option.map_eq_some_iff.mp e
  clear e
  unfold eqD at e'
  split at e'
  · rename_i hc
    cases e'
    simp only [Bool.and_eq_true, Bool.or_eq_true] at hc
    obtain ⟨⟨h1, h2⟩, h3⟩ := hc
    obtain ⟨as, q1⟩ := Dp.reads I _ x v (Rep.dp a ra h1) rx
    obtain ⟨bs, q2⟩ := Dp.reads I _ y u (Rep.dp b rb h2) ry
    have hm : min (toPy a).depth (toPy b).depth ≤ 60 := by
      rcases h3 with h3 | h3
      · exact Nat.le_trans (Nat.min_le_left _ _) (within_depth _ _ h3)
      · exact Nat.le_trans (Nat.min_le_right _ _) (within_depth _ _ h3)
    exact PySem.SeqAt.compareEq_reads q1 q2 (plain_lay a h1) (plain_lay b h2) (by omega) ⟨.bl _, H, I, rfl, wp_bl st post⟩
  · cases e'
theorem op_neT (hu : X.A.units + 64 < cLine) : OpR X (compareOp .NotEq) (rD2 X.K fun a b => (eqD a b).map fun k => D.bl (!k)) := by
  intro pins s σ H x y v u Q I rx ry h
  obtain ⟨F, a, b, O, d, st, e, post⟩ := h
  obtain ⟨O1, O2, rfl, ra, rb⟩ := st.rep2
  obtain ⟨k, e', rfl⟩ := Option.map_eq_some_iff.mp e
  clear e
  unfold eqD at e'
  split at e'
  · rename_i hc
    cases e'
    simp only [Bool.and_eq_true, Bool.or_eq_true] at hc
    obtain ⟨⟨h1, h2⟩, h3⟩ := hc
    obtain ⟨as, q1⟩ := Dp.reads I _ x v (Rep.dp a ra h1) rx
    obtain ⟨bs, q2⟩ := Dp.reads I _ y u (Rep.dp b rb h2) ry
    have hm : min (toPy a).depth (toPy b).depth ≤ 60 := by
      rcases h3 with h3 | h3
      · exact Nat.le_trans (Nat.min_le_left _ _) (within_depth _ _ h3)
      · exact Nat.le_trans (Nat.min_le_right _ _) (within_depth _ _ h3)
    exact PySem.SeqAt.compareNe_reads q1 q2 (plain_lay a h1) (plain_lay b h2) (by omega) ⟨.bl _, H, I, rfl, wp_bl st post⟩
  · cases e'
def copOf : COp → CmpOp
  | .eq => .Eq | .ne => .NotEq | .lt => .Lt | .le => .LtE | .gt => .Gt | .ge => .GtE | .isN => .Is | .notN => .IsNot | .isIn => .In | .notIn => .NotIn
theorem Rep.dec_non {K : PySem.W.Frag} {A : Addr → Prop} {H : Hp} {d : D} {v : V} {O : List Addr} (r : Rep K A H d v O) (h1 : d ≠ .hole) (h2 : d ≠ .non) : decide (v = .non) = false := by
  cases d with
  | hole => exact absurd rfl h1
  | non => exact absurd rfl h2
  | bl b => rw [(Rep.blE r).1]; rfl
  | int b => rw [(Rep.intE r).1]; rfl
  | str b => rw [(Rep.strE r).1]; simp
  | tup ds => obtain ⟨a, vs, rfl, _⟩ := Rep.tupE r; rfl
  | lst o ds => obtain ⟨a, vs, Oi, rfl, _⟩ := Rep.seq r; rfl
  | scr ds => obtain ⟨_, a, rfl, _⟩ := Rep.scrE r; rfl
theorem flat_ints (ns : List Int) : (ns.map V.int).all flatV = true := by rw [List.all_map]; simp [flatV]
theorem inV_ints (i : Int) (ns : List Int) : inV (.int i) (ns.map V.int) = ns.any (· == i) := by
  unfold inV
  rw [List.any_map]; rfl
theorem in_parts {K : PySem.W.Frag} {A : Addr → Prop} {H : Hp} {a b d : D} {x y : V} {O1 O2 : List Addr} {f : Bool → Bool} (ra : Rep K A H a x O1) (rb : Rep K A H b y O2)
    (e : match a, b with | .int i, .lst _ xs => (allInts xs).map (fun ns => D.bl (f (ns.any (· == i)))) = some d | .int i, .tup xs => (allInts xs).map (fun ns => D.bl (f (ns.any (· == i)))) = some d | _, _ => False) :
    ∃ (i : Int) (p : Addr) (ns : List Int), x = .int i ∧ y = .ref p ∧ (SqL K H p (ns.map V.int) ∨ SqT K H p (ns.map V.int)) ∧ d = .bl (f (ns.any (· == i))) := by
  split at e
  · rename_i i o xs ra rb
    obtain ⟨ns, h1, rfl⟩ := Option.map_eq_some_iff.mp e
    obtain rfl := allInts_eq h1
    obtain ⟨rfl, _⟩ := Rep.intE ra
    obtain ⟨p, vs, Oi, rfl, hp, _, r, _⟩ := Rep.seq rb
    obtain ⟨rfl, _⟩ := RepL.ints r
    exact ⟨i, p, ns, rfl, rfl, .inl (.inl (.inl hp)), rfl⟩
  · rename_i i xs ra rb
    obtain ⟨ns, h1, rfl⟩ := Option.map_eq_some_iff.mp e
    obtain rfl := allInts_eq h1
    obtain ⟨rfl, _⟩ := Rep.intE ra
    obtain ⟨p, vs, rfl, hp, _, r⟩ := Rep.tupE rb
    obtain ⟨rfl, _⟩ := RepL.ints r
    exact ⟨i, p, ns, rfl, rfl, .inr hp, rfl⟩
  · exact e.elim
theorem not_bl {K : PySem.W.Frag} {A : Addr → Prop} {H : Hp} {a : D} {x : V} {v : Value} {O : List Addr} (r : Rep K A H a x O) (h1 : a ≠ .hole) (h2 : ¬ ∃ k, a = .bl k) (rx : RelV x v) : (∀ c, plainIs v (.bool c) = true) ∧ ∀ c, v ≠ Value.bool c := by
  cases a with
  | hole => exact absurd rfl h1
  | bl k => exact absurd ⟨k, rfl⟩ h2
  | non =>
    obtain ⟨rfl, _⟩ := Rep.nonE r
    obtain rfl : v = Value.none := rx
    exact ⟨fun _ => rfl, fun _ z => nomatch z⟩
  | int i =>
    obtain ⟨rfl, _⟩ := Rep.intE r
    obtain ⟨t, rfl⟩ := rx
    exact ⟨fun _ => rfl, fun _ z => nomatch z⟩
  | str i =>
    obtain ⟨rfl, _⟩ := Rep.strE r
    obtain ⟨t, rfl⟩ := rx
    exact ⟨fun _ => rfl, fun _ z => nomatch z⟩
  | tup ds =>
    obtain ⟨p, vs, rfl, _⟩ := Rep.tupE r
    obtain rfl : v = Value.ref p := rx
    exact ⟨fun _ => rfl, fun _ z => nomatch z⟩
  | lst o ds =>
    obtain ⟨p, vs, Oi, rfl, _⟩ := Rep.seq r
    obtain rfl : v = Value.ref p := rx
    exact ⟨fun _ => rfl, fun _ z => nomatch z⟩
  | scr ns =>
    obtain ⟨_, p, rfl, _⟩ := Rep.scrE r
    obtain rfl : v = Value.ref p := rx
    exact ⟨fun _ => rfl, fun _ z => nomatch z⟩
theorem op_cmpD (hu : X.A.units + 64 < cLine) (op : COp) : OpR X (compareOp (copOf op)) (rD2 X.K fun a b => (cmpD op a b).map D.bl) := by
  intro pins s σ H x y v u Q I rx ry h
  cases op with
  | eq => exact op_eqT hu pins s σ H x y v u Q I rx ry h
  | ne =>
    obtain ⟨F, a, b, O, d, st, e, post⟩ := h
    refine op_neT hu pins s σ H x y v u Q I rx ry ⟨F, a, b, O, d, st, ?_, post⟩
    simpa [cmpD, Function.comp_def] using e
  | isIn =>
    obtain ⟨F, a, b, O, d, st, e, post⟩ := h
    obtain ⟨O1, O2, rfl, ra, rb⟩ := st.rep2
    obtain ⟨i, p, ns, rfl, rfl, hq, rfl⟩ := in_parts ra rb (f := id) (by cases b <;> cases a <;> simp [cmpD] at e ⊢ <;> exact e)
    exact op_in_seq pins s σ H _ _ v u Q I rx ry ⟨p, ns.map V.int, rfl, hq, rfl, flat_ints ns, by rw [inV_ints]; exact wp_bl st post⟩
  | notIn =>
    obtain ⟨F, a, b, O, d, st, e, post⟩ := h
    obtain ⟨O1, O2, rfl, ra, rb⟩ := st.rep2
    obtain ⟨i, p, ns, rfl, rfl, hq, rfl⟩ := in_parts ra rb (f := fun k => !k) (by cases b <;> cases a <;> simp [cmpD] at e ⊢ <;> exact e)
    exact op_notIn_seq pins s σ H _ _ v u Q I rx ry ⟨p, ns.map V.int, rfl, hq, rfl, flat_ints ns, by rw [inV_ints]; exact wp_bl st post⟩
  | isN =>
    obtain ⟨F, a, b, O, d, st, e, post⟩ := h
    obtain ⟨O1, O2, rfl, ra, rb⟩ := st.rep2
    cases b with
    | non =>
      cases a <;> simp [cmpD] at e
      all_goals
        subst e
        obtain ⟨rfl, _⟩ := Rep.nonE rb
        refine op_isN pins s σ H _ _ v u Q I rx ry ⟨rfl, ?_⟩
        first
          | (obtain ⟨rfl, _⟩ := Rep.nonE ra; exact wp_bl st post)
          | (rw [Rep.dec_non ra (by simp) (by simp)]; exact wp_bl st post)
    | bl c =>
      obtain ⟨rfl, _⟩ := Rep.blE rb
      by_cases hb : ∃ k, a = .bl k
      · obtain ⟨k, rfl⟩ := hb
        simp [cmpD] at e
        subst e
        obtain ⟨rfl, _⟩ := Rep.blE ra
        obtain rfl : v = Value.bool k := rx
        obtain rfl : u = Value.bool c := ry
        have := wp_bl st post
        cases k <;> cases c
        · exact wpAny_is_self rfl ⟨.bl true, H, I, rfl, this⟩
        · exact wpAny_is_other rfl (by simp) ⟨.bl false, H, I, rfl, this⟩
        · exact wpAny_is_other rfl (by simp) ⟨.bl false, H, I, rfl, this⟩
        · exact wpAny_is_self rfl ⟨.bl true, H, I, rfl, this⟩
      · have ed : d = .bl false ∧ a ≠ .hole := by cases a <;> simp [cmpD] at e ⊢ <;> first | exact e.symm | exact absurd ⟨_, rfl⟩ hb
        obtain ⟨rfl, hh⟩ := ed
        obtain ⟨p1, p2⟩ := not_bl ra hh hb rx
        obtain rfl : u = Value.bool c := ry
        exact wpAny_is_other (p1 c) (p2 c) ⟨.bl false, H, I, rfl, wp_bl st post⟩
    | _ => cases a <;> simp [cmpD] at e
  | notN =>
    obtain ⟨F, a, b, O, d, st, e, post⟩ := h
    obtain ⟨O1, O2, rfl, ra, rb⟩ := st.rep2
    cases b with
    | non =>
      cases a <;> simp [cmpD] at e
      all_goals
        subst e
        obtain ⟨rfl, _⟩ := Rep.nonE rb
        refine op_notN pins s σ H _ _ v u Q I rx ry ⟨rfl, ?_⟩
        first
          | (obtain ⟨rfl, _⟩ := Rep.nonE ra; exact wp_bl st post)
          | (rw [Rep.dec_non ra (by simp) (by simp)]; exact wp_bl st post)
    | bl c =>
      obtain ⟨rfl, _⟩ := Rep.blE rb
      obtain rfl : u = Value.bool c := ry
      by_cases hb : ∃ k, a = .bl k
      · obtain ⟨k, rfl⟩ := hb
        simp [cmpD] at e
        subst e
        obtain ⟨rfl, _⟩ := Rep.blE ra
        obtain rfl : v = Value.bool k := rx
        have := wp_bl st post
        cases k <;> cases c
        · exact wpAny_isNot_self rfl ⟨.bl false, H, I, rfl, this⟩
        · exact wpAny_isNot_other rfl (by simp) ⟨.bl true, H, I, rfl, this⟩
        · exact wpAny_isNot_other rfl (by simp) ⟨.bl true, H, I, rfl, this⟩
        · exact wpAny_isNot_self rfl ⟨.bl false, H, I, rfl, this⟩
      · have ed : d = .bl true ∧ a ≠ .hole := by cases a <;> simp [cmpD] at e ⊢ <;> first | exact e.symm | exact absurd ⟨_, rfl⟩ hb
        obtain ⟨rfl, hh⟩ := ed
        obtain ⟨p1, p2⟩ := not_bl ra hh hb rx
        exact wpAny_isNot_other (p1 c) (p2 c) ⟨.bl true, H, I, rfl, wp_bl st post⟩
    | _ => cases a <;> simp [cmpD] at e
  | lt =>
    obtain ⟨F, a, b, O, d, st, e, post⟩ := h
    obtain ⟨O1, O2, rfl, ra, rb⟩ := st.rep2
    cases a <;> cases b <;> simp [cmpD] at e
    subst e
    obtain ⟨rfl, _⟩ := Rep.intE ra
    obtain ⟨rfl, _⟩ := Rep.intE rb
    exact op_lt pins s σ H _ _ v u Q I rx ry ⟨_, _, rfl, rfl, wp_bl st post⟩
  | le =>
    obtain ⟨F, a, b, O, d, st, e, post⟩ := h
    obtain ⟨O1, O2, rfl, ra, rb⟩ := st.rep2
    cases a <;> cases b <;> simp [cmpD] at e
    subst e
    obtain ⟨rfl, _⟩ := Rep.intE ra
    obtain ⟨rfl, _⟩ := Rep.intE rb
    exact op_le pins s σ H _ _ v u Q I rx ry ⟨_, _, rfl, rfl, wp_bl st post⟩
  | gt =>
    obtain ⟨F, a, b, O, d, st, e, post⟩ := h
    obtain ⟨O1, O2, rfl, ra, rb⟩ := st.rep2
    cases a <;> cases b <;> simp [cmpD] at e
    subst e
    obtain ⟨rfl, _⟩ := Rep.intE ra
    obtain ⟨rfl, _⟩ := Rep.intE rb
    exact op_gt pins s σ H _ _ v u Q I rx ry ⟨_, _, rfl, rfl, wp_bl st post⟩
  | ge =>
    obtain ⟨F, a, b, O, d, st, e, post⟩ := h
    obtain ⟨O1, O2, rfl, ra, rb⟩ := st.rep2
    cases a <;> cases b <;> simp [cmpD] at e
    subst e
    obtain ⟨rfl, _⟩ := Rep.intE ra
    obtain ⟨rfl, _⟩ := Rep.intE rb
    exact op_ge pins s σ H _ _ v u Q I rx ry ⟨_, _, rfl, rfl, wp_bl st post⟩
/-- a[i] -/
theorem ix_subD : IxR X (rD2 X.K subD) := by
  intro value slice pins s σ H x y v u Q I rx ry h hs
  obtain ⟨F, a, b, O, d, st, e, post⟩ := h
  obtain ⟨O1, O2, rfl, ra, rb⟩ := st.rep2
  cases b <;> cases a <;> simp only [subD, reduceCtorEq] at e
  · obtain ⟨rfl, _⟩ := Rep.intE rb
    obtain ⟨a, vs, rfl, ha, hla, ra'⟩ := Rep.tupE ra
    obtain ⟨w, Oj, h1, h2, h3⟩ := RepL.atI ra' e
    exact ix_tup value slice pins s σ H _ _ v u Q I rx ry ⟨a, vs, _, w, rfl, rfl, ha, h1, wp_one st h2 (h3.trans (List.sublist_append_left _ _)) post⟩ hs
  · obtain ⟨rfl, _⟩ := Rep.intE rb
    obtain ⟨a, vs, Oi, rfl, ha, hla, ra', sa⟩ := Rep.seq ra
    obtain ⟨w, Oj, h1, h2, h3⟩ := RepL.atI ra' e
    exact ix_list value slice pins s σ H _ _ v u Q I rx ry ⟨a, vs, _, w, rfl, rfl, .inl (.inl ha), h1, wp_one st h2 (h3.trans (sa.trans (List.sublist_append_left _ _))) post⟩ hs
  · rename_i k ns
    obtain ⟨rfl, _⟩ := Rep.intE rb
    obtain ⟨_, a, rfl, ha, _⟩ := Rep.scrE ra
    obtain ⟨n, e1, rfl⟩ := Option.map_eq_some_iff.mp e
    refine ix_list value slice pins s σ H _ _ v u Q I rx ry ⟨a, _, _, .int n, rfl, rfl, ha, ?_, wp_int st post⟩ hs
    unfold L2.atI at e1 ⊢
    rw [List.length_map]
    obtain ⟨j, e2, e3⟩ := Option.bind_eq_some_iff.mp e1
    rw [e2]
    simp [e3]
end
end OE

/-! Oe4: built-in functions. -/
namespace OE
open PySem PySem.Spec PyProof.Rows L2

section
variable {K : PySem.W.Frag} {A : Addr → Prop} {F : Addr → Prop} {H : Hp} {O O1 O2 : List Addr} {env : List D} {σ : List (Option V)} {d : D} {v x y : V} {ds : List D} {vs : List V} {Q : VK}
theorem RepL.one (r : RepL K A H [d] vs O) : ∃ v, vs = [v] ∧ Rep K A H d v O := by
  simp only [RepL, Rep.RepL] at r
  obtain ⟨v, vs', O1, O2, rfl, rfl, r1, rfl, rfl⟩ := r
  exact ⟨v, rfl, by simpa using r1⟩
theorem RepL.two {d e : D} (r : RepL K A H [d, e] vs O) : ∃ v w O1 O2, vs = [v, w] ∧ O = O1 ++ O2 ∧ Rep K A H d v O1 ∧ Rep K A H e w O2 := by
  simp only [RepL, Rep.RepL] at r
  obtain ⟨v, vs', O1, O2, rfl, rfl, r1, w, ws, O3, O4, rfl, rfl, r2, rfl, rfl⟩ := r
  exact ⟨v, w, O1, O3, rfl, by simp, r1, r2⟩
theorem minI_is : ∀ {ns : List Int} {m : Int}, minI ns = some m → m ∈ ns ∧ ∀ y ∈ ns, m ≤ y
  | [], m, h => by simp [minI] at h
  | [i], m, h => by simp only [minI, Option.some.injEq] at h; subst h; simp
  | i :: j :: r, m, h => by
    simp only [minI, Option.map_eq_some_iff] at h
    obtain ⟨k, h1, rfl⟩ := h
    obtain ⟨h2, h3⟩ := minI_is (ns := j :: r) h1
    refine ⟨?_, fun y hy => ?_⟩
    · by_cases hc : i ≤ k
      · rw [Int.min_eq_left hc]; simp
      · rw [Int.min_eq_right (by omega)]; exact List.mem_cons_of_mem _ h2
    · rcases List.mem_cons.mp hy with rfl | hy
      · exact Int.min_le_left _ _
      · exact Int.le_trans (Int.min_le_right _ _) (h3 y hy)
theorem maxI_is : ∀ {ns : List Int} {m : Int}, maxI ns = some m → m ∈ ns ∧ ∀ y ∈ ns, y ≤ m
  | [], m, h => by simp [maxI] at h
  | [i], m, h => by simp only [maxI, Option.some.injEq] at h; subst h; simp
  | i :: j :: r, m, h => by
    simp only [maxI, Option.map_eq_some_iff] at h
    obtain ⟨k, h1, rfl⟩ := h
    obtain ⟨h2, h3⟩ := maxI_is (ns := j :: r) h1
    refine ⟨?_, fun y hy => ?_⟩
    · by_cases hc : k ≤ i
      · rw [Int.max_eq_left hc]; simp
      · rw [Int.max_eq_right (by omega)]; exact List.mem_cons_of_mem _ h2
    · rcases List.mem_cons.mp hy with rfl | hy
      · exact Int.le_max_left _ _
      · exact Int.le_trans (h3 y hy) (Int.le_max_right _ _)
theorem sorted_one {a b : List Int} (p : a.Perm b) (h : a.Pairwise (· ≤ ·)) : a = b.mergeSort fun a b => decide (a ≤ b) := by
  have q : (b.mergeSort fun a b => decide (a ≤ b)).Pairwise (· ≤ ·) := by
    have := List.pairwise_mergeSort (le := fun a b : Int => decide (a ≤ b)) (fun a b c h1 h2 => by simp at *; omega) (fun a b => by simp; omega) b
    exact this.imp fun h => of_decide_eq_true h
  have pq : a.Perm (b.mergeSort fun a b => decide (a ≤ b)) := p.trans (List.mergeSort_perm b _).symm
  exact List.Perm.eq_of_pairwise (le := (· ≤ ·)) (fun a b _ _ h1 h2 => Int.le_antisymm h1 h2) h q pq
end

section
variable {X : Cx}
def bfV : Bf → Value
  | .len => .builtin "len" | .sum => .builtin "sum" | .sumL => .builtin "sum" | .min => .builtin "min" | .max => .builtin "max" | .abs => .builtin "abs"
  | .int => .type "int" | .list => .type "list" | .tuple => .type "tuple" | .sorted => .builtin "sorted" | .all => .builtin "all" | .any => .builtin "any" | .bits => .none | .repr => .builtin "repr"
theorem call_lenD : CallR X (.builtin "len") (rDs X.K bLen) := by
  intro pins s σ H xs us Q I rx h
  obtain ⟨F, ds, O, d, st, e, post⟩ := h
  have r := st.reps
  unfold bLen at e
  split at e <;> simp only [reduceCtorEq, Option.some.injEq] at e
  · subst e
    obtain ⟨v, rfl, r1⟩ := RepL.one r
    obtain ⟨a, vs, rfl, ht, hl, r2⟩ := Rep.tupE r1
    rw [← RepL.len r2] at post
    exact call_len_seq pins s σ H _ us Q I rx ⟨a, vs, rfl, .inr ht, wp_int st post⟩
  · subst e
    obtain ⟨v, rfl, r1⟩ := RepL.one r
    obtain ⟨a, vs, Oi, rfl, ht, hl, r2, _⟩ := Rep.seq r1
    rw [← RepL.len r2] at post
    exact call_len_seq pins s σ H _ us Q I rx ⟨a, vs, rfl, .inl (.inl (.inl ht)), wp_int st post⟩
  · subst e
    obtain ⟨v, rfl, r1⟩ := RepL.one r
    obtain ⟨_, a, rfl, ht, _⟩ := Rep.scrE r1
    refine call_len_seq pins s σ H _ us Q I rx ⟨a, _, rfl, .inl ht, ?_⟩
    rw [List.length_map]
    exact wp_int st post
theorem call_sumD (hc : X.calm = true) : CallR X (.builtin "sum") (rDs X.K bSum) := by
  intro pins s σ H xs us Q I rx h
  obtain ⟨F, ds, O, d, st, e, post⟩ := h
  have r := st.reps
  unfold bSum at e
  split at e <;> simp only [reduceCtorEq, Option.map_eq_some_iff] at e
  obtain ⟨ns, e, rfl⟩ := e
  obtain ⟨v, rfl, r1⟩ := RepL.one r
  obtain ⟨a, vs, Oi, rfl, ht, hl, r2, _⟩ := Rep.seq r1
  obtain rfl := allInts_eq e
  obtain ⟨rfl, rfl⟩ := RepL.ints r2
  exact cr_sum hc pins s σ H _ us Q I rx ⟨a, ns, rfl, .inl (.inl ht), wp_int st post⟩
theorem call_minD (hc : X.calm = true) : CallR X (.builtin "min") (rDs X.K bMin) := by
  intro pins s σ H xs us Q I rx h
  obtain ⟨F, ds, O, d, st, e, post⟩ := h
  have r := st.reps
  unfold bMin at e
  split at e <;> simp only [reduceCtorEq, Option.some.injEq, Option.bind_eq_some_iff, Option.map_eq_some_iff] at e
  · subst e
    obtain ⟨v, w, O1, O2, rfl, rfl, r1, r2⟩ := RepL.two r
    obtain ⟨rfl, _⟩ := Rep.intE r1
    obtain ⟨rfl, _⟩ := Rep.intE r2
    exact call_min2 hc pins s σ H _ us Q I rx ⟨_, _, rfl, wp_int st post⟩
  · obtain ⟨ns, e, m, hm, rfl⟩ := e
    obtain ⟨v, rfl, r1⟩ := RepL.one r
    obtain ⟨a, vs, Oi, rfl, ht, hl, r2, _⟩ := Rep.seq r1
    obtain rfl := allInts_eq e
    obtain ⟨rfl, rfl⟩ := RepL.ints r2
    obtain ⟨h1, h2⟩ := minI_is hm
    refine cr_min hc pins s σ H _ us Q I rx ⟨a, ns, rfl, .inl (.inl ht), List.length_pos_of_mem h1, fun k k1 k2 => ?_⟩
    obtain rfl : k = m := Int.le_antisymm (k2 m h1) (h2 k k1)
    exact wp_int st post
theorem call_maxD (hc : X.calm = true) : CallR X (.builtin "max") (rDs X.K bMax) := by
  intro pins s σ H xs us Q I rx h
  obtain ⟨F, ds, O, d, st, e, post⟩ := h
  have r := st.reps
  unfold bMax at e
  split at e <;> simp only [reduceCtorEq, Option.some.injEq, Option.bind_eq_some_iff, Option.map_eq_some_iff] at e
  · subst e
    obtain ⟨v, w, O1, O2, rfl, rfl, r1, r2⟩ := RepL.two r
    obtain ⟨rfl, _⟩ := Rep.intE r1
    obtain ⟨rfl, _⟩ := Rep.intE r2
    exact call_max2 hc pins s σ H _ us Q I rx ⟨_, _, rfl, wp_int st post⟩
  · obtain ⟨ns, e, m, hm, rfl⟩ := e
    obtain ⟨v, rfl, r1⟩ := RepL.one r
    obtain ⟨a, vs, Oi, rfl, ht, hl, r2, _⟩ := Rep.seq r1
    obtain rfl := allInts_eq e
    obtain ⟨rfl, rfl⟩ := RepL.ints r2
    obtain ⟨h1, h2⟩ := maxI_is hm
    refine cr_max hc pins s σ H _ us Q I rx ⟨a, ns, rfl, .inl (.inl ht), List.length_pos_of_mem h1, fun k k1 k2 => ?_⟩
    obtain rfl : k = m := Int.le_antisymm (h2 k k1) (k2 m h1)
    exact wp_int st post
theorem call_absD : CallR X (.builtin "abs") (rDs X.K bAbs) := by
  intro pins s σ H xs us Q I rx h
  obtain ⟨F, ds, O, d, st, e, post⟩ := h
  have r := st.reps
  unfold bAbs at e
  split at e <;> simp only [reduceCtorEq, Option.some.injEq] at e
  subst e
  obtain ⟨v, rfl, r1⟩ := RepL.one r
  obtain ⟨rfl, _⟩ := Rep.intE r1
  exact call_abs pins s σ H _ us Q I rx ⟨_, rfl, wp_int st post⟩
theorem call_intD : CallR X (.type "int") (rDs X.K bInt) := by
  intro pins s σ H xs us Q I rx h
  obtain ⟨F, ds, O, d, st, e, post⟩ := h
  have r := st.reps
  unfold bInt at e
  split at e <;> simp only [reduceCtorEq, Option.some.injEq] at e
  · subst e
    obtain ⟨v, rfl, r1⟩ := RepL.one r
    obtain ⟨rfl, _⟩ := Rep.intE r1
    exact call_int1 pins s σ H _ us Q I rx (.inl ⟨_, rfl, wp_int st post⟩)
  · subst e
    obtain ⟨v, rfl, r1⟩ := RepL.one r
    obtain ⟨rfl, _⟩ := Rep.blE r1
    exact call_int1 pins s σ H _ us Q I rx (.inr ⟨_, rfl, wp_int st post⟩)
theorem call_listD : CallR X (.type "list") (rDs X.K bList) := by
  intro pins s σ H xs us Q I rx h
  obtain ⟨F, ds, O, d, st, e, post⟩ := h
  have r := st.reps
  unfold bList at e
  split at e <;> simp only [reduceCtorEq, Option.some.injEq] at e
  · subst e
    obtain ⟨v, rfl, r1⟩ := RepL.one r
    obtain ⟨a, vs, Oi, rfl, ht, hl, r2, sb⟩ := Rep.seq r1
    exact call_list_of pins s σ H _ us Q I rx ⟨a, vs, rfl, .inl (.inl (.inl ht)), wp_lst st r2 sb hl post⟩
  · subst e
    obtain ⟨v, rfl, r1⟩ := RepL.one r
    obtain ⟨a, vs, rfl, ht, hl, r2⟩ := Rep.tupE r1
    exact call_list_of pins s σ H _ us Q I rx ⟨a, vs, rfl, .inr ht, wp_lst st r2 (List.Sublist.refl _) hl post⟩
theorem call_tupleD : CallR X (.type "tuple") (rDs X.K bTuple) := by
  intro pins s σ H xs us Q I rx h
  obtain ⟨F, ds, O, d, st, e, post⟩ := h
  have r := st.reps
  unfold bTuple at e
  split at e <;> simp only [reduceCtorEq, Option.some.injEq] at e
  · subst e
    obtain ⟨v, rfl, r1⟩ := RepL.one r
    obtain ⟨a, vs, Oi, rfl, ht, hl, r2, sb⟩ := Rep.seq r1
    exact call_tuple_of pins s σ H _ us Q I rx ⟨a, vs, rfl, .inl ⟨.inl (.inl ht), wp_tup st r2 sb hl post⟩⟩
  · subst e
    obtain ⟨v, rfl, r1⟩ := RepL.one r
    obtain ⟨a, vs, rfl, ht, hl, r2⟩ := Rep.tupE r1
    exact call_tuple_of pins s σ H _ us Q I rx ⟨a, vs, rfl, .inr ⟨ht, wp_one st r1 (List.Sublist.refl _) post⟩⟩
theorem call_sortedD : CallR X (.builtin "sorted") (rDs X.K bSorted) := by
  intro pins s σ H xs us Q I rx h
  obtain ⟨F, ds, O, d, st, e, post⟩ := h
  have r := st.reps
  unfold bSorted at e
  split at e <;> simp only [reduceCtorEq, Option.map_eq_some_iff] at e
  obtain ⟨ns, e, rfl⟩ := e
  obtain ⟨v, rfl, r1⟩ := RepL.one r
  obtain ⟨a, vs, Oi, rfl, ht, hl, r2, sb⟩ := Rep.seq r1
  obtain rfl := allInts_eq e
  obtain ⟨rfl, rfl⟩ := RepL.ints r2
  refine cr_sortedI pins s σ H _ us Q I rx ⟨a, ns, rfl, .inl (.inl ht), fun ns' p hp ho hn => ?_⟩
  obtain rfl := sorted_one hp ho
  exact wp_lst st (RepL.ofInts _) sb (by rw [List.length_map, hp.length_eq]; rw [List.length_map] at hl; exact hl) post p hn
theorem call_allD (hc : X.calm = true) : CallR X (.builtin "all") (rDs X.K bAll) := by
  intro pins s σ H xs us Q I rx h
  obtain ⟨F, ds, O, d, st, e, post⟩ := h
  have r := st.reps
  unfold bAll at e
  split at e <;> simp only [reduceCtorEq, Option.map_eq_some_iff] at e
  obtain ⟨ns, e, rfl⟩ := e
  obtain ⟨v, rfl, r1⟩ := RepL.one r
  obtain ⟨a, vs, Oi, rfl, ht, hl, r2, sb⟩ := Rep.seq r1
  obtain rfl := allBools_eq e
  obtain ⟨rfl, rfl⟩ := RepL.bls r2
  exact cr_all hc pins s σ H _ us Q I rx ⟨a, ns, rfl, .inl (.inl ht), wp_bl st post⟩
theorem call_anyD (hc : X.calm = true) : CallR X (.builtin "any") (rDs X.K bAny) := by
  intro pins s σ H xs us Q I rx h
  obtain ⟨F, ds, O, d, st, e, post⟩ := h
  have r := st.reps
  unfold bAny at e
  split at e <;> simp only [reduceCtorEq, Option.map_eq_some_iff] at e
  obtain ⟨ns, e, rfl⟩ := e
  obtain ⟨v, rfl, r1⟩ := RepL.one r
  obtain ⟨a, vs, Oi, rfl, ht, hl, r2, sb⟩ := Rep.seq r1
  obtain rfl := allBools_eq e
  obtain ⟨rfl, rfl⟩ := RepL.bls r2
  exact cr_any hc pins s σ H _ us Q I rx ⟨a, ns, rfl, .inl (.inl ht), wp_bl st post⟩

/-! ### isinstance -/
def tyV' : Ty → String
  | .int => "int" | .bool => "bool" | .str => "str" | .list => "list" | .tuple => "tuple" | .dict => "dict"
def tyOf : D → Value
  | .non => .type "NoneType" | .bl _ => .type "bool" | .int _ => .type "int" | .str _ => .type "str" | .tup _ => .type "tuple" | _ => .type "list"
theorem ty_rep {H : Hp} {d : D} {v : V} {O : List Addr} {A : Addr → Prop} (r : Rep X.K A H d v O) (hd : d ≠ .hole) : TyX X.K H v (tyOf d) := by
  cases d with
  | hole => exact absurd rfl hd
  | non => obtain ⟨rfl, _⟩ := Rep.nonE r; exact .base .non
  | bl k => obtain ⟨rfl, _⟩ := Rep.blE r; exact .base (.bl k)
  | int k => obtain ⟨rfl, _⟩ := Rep.intE r; exact .base (.int k)
  | str k => obtain ⟨rfl, _⟩ := Rep.strE r; exact .base (.str k)
  | tup ds =>
    obtain ⟨a, vs, rfl, ht, hl, r2⟩ := Rep.tupE r
    rcases ht with ht | ⟨o, its, n, ho, hc, _⟩
    · rcases ht with ht | ⟨o, ht⟩
      · exact .base (.tup ht)
      · exact .fTuple ht
    · exact .kTuple ho hc
  | lst o ds =>
    obtain ⟨a, vs, Oi, rfl, ht, hl, r2, sb⟩ := Rep.seq r
    exact .base (.lst ht)
  | scr ns =>
    obtain ⟨_, a, rfl, _, hh⟩ := Rep.scrE r
    rcases hh with ⟨o, ht⟩ | ⟨o, its, n, ho, hc, _⟩
    · exact .base (.frz ht)
    · exact .kList ho hc
theorem ty_kit {K : PySem.W.Frag} {d : D} {t : Ty} {b : Bool} (e : isTy d t = some b) : PySem.W.kitOne K (tyOf d) (.type (tyV' t)) = some b := by
  cases d <;> cases t <;> simp [isTy] at e <;> subst e <;> exact kit_ty (by decide +kernel)
theorem isTy_hole {d : D} {t : Ty} {b : Bool} (e : isTy d t = some b) : d ≠ .hole := by
  intro h; subst h; simp [isTy] at e
end
end OE

/-! OeL: sum(lists, []). -/
namespace OE
open PySem PySem.Spec PyProof.Rows L2

theorem args_sumTwo (a b : Value) : argsOk "sum" ⟨[a, b], []⟩ := by unfold argsOk; kernel_rfl
theorem sub_l_str : isSubtype (.type "list") (.type "str") = pure false := by rw [isSubtype_type]; kernel_rfl
theorem sub_l_bytes : isSubtype (.type "list") (.type "bytes") = pure false := by rw [isSubtype_type]; kernel_rfl
theorem sub_l_ba : isSubtype (.type "list") (.type "bytearray") = pure false := by rw [isSubtype_type]; kernel_rfl
def catN (ws : Nat → Array Value) : Nat → Array Value
  | 0 => #[]
  | i + 1 => catN ws i ++ ws i
section
variable {prog : Program} {w : World} {A : Around} {R : Result → Shared → Prop} {I ax S : Addr} {items : Array Value} {bs : Nat → Addr} {ws : Nat → Array Value} {ms : Nat → Nat}
theorem sum_loopL (hh : A.handled = none) (hne : ax ≠ I) (hSI : S ≠ I) (hSa : S ≠ ax) (hit : ∀ j, j < items.size → items[j]? = some (.ref (bs j))) (hsz : ∀ j, j ≤ items.size → (catN ws j).size ≤ sizeLine) :
    ∀ (k i : Nat) (s : Shared) (T : Addr) (c m : Nat), items.size - i = k → i ≤ items.size → s.heap.IsListIter I ax i → s.heap.IsList ax items → s.heap.get? S = some { cls := .type "list", dict := none, data := .seq #[.ref T] c, slots := #[] } →
    IsL s.heap T (catN ws i) m → T ≠ I → T ≠ S → (∀ j, j < items.size → IsL s.heap (bs j) (ws j) (ms j) ∧ bs j ≠ I ∧ bs j ≠ S) →
    (∀ h' T' m', (∀ b o, b ≠ I → b ≠ S → s.heap.get? b = some o → h'.get? b = some o) → IsL h' T' (catN ws items.size) m' → ((k = 0 ∧ T' = T) ∨ (0 < k ∧ s.heap.objs.size ≤ T')) → R (.ok (.ret (.ref T'))) { s with heap := h' }) →
    codeAny (model prog w) A (.builtin "sum.loop" ⟨[.ref I, .ref S, rawInt 2, rawInt 0], []⟩) R s := by
  intro k
  induction k with
  | zero =>
    intro i s T c m hk hi st sl hS hT hTI hTS hb hR
    have hin : i = items.size := by omega
    subst hin
    refine codeAny_builtin F.entry_sum_loop ?_
    rw [Around.under_plainId F.plain_sum_loop _]
    show wpAny _ A.in1 (seqItems? (.ref S) >>= _) _ _ s
    refine wpAny_bind (wpAny_seqItems hS rfl ?_)
    show wpAny _ A.in1 (tryCatch (pyNext (.ref I)) _ >>= _) _ _ s
    refine wpAny_bind (wpAny_tryCatch (wpAny_pyNext_list_end hh st sl (by simp) fun h' he => ?_))
    exact wpAny_pure (hR h' T m (fun b o h1 _ e => he b o h1 e) (he _ _ hTI hT) (.inl ⟨rfl, rfl⟩))
  | succ k ih =>
    intro i s T c m hk hi st sl hS hT hTI hTS hb hR
    have hlt : i < items.size := by omega
    refine codeAny_builtin F.entry_sum_loop ?_
    rw [Around.under_plainId F.plain_sum_loop _]
    show wpAny _ A.in1 (seqItems? (.ref S) >>= _) _ _ s
    refine wpAny_bind (wpAny_seqItems hS rfl ?_)
    show wpAny _ A.in1 (tryCatch (pyNext (.ref I)) _ >>= _) _ _ s
    refine wpAny_bind (wpAny_tryCatch (wpAny_pyNext_list_item st sl (hit i hlt) fun h' st' hs' => ?_))
    have keep : ∀ b o, b ≠ I → s.heap.get? b = some o → h'.get? b = some o := fun b o h1 e => hs'.extBut b o h1 e
    have hS' := keep S _ hSI hS
    have hT' : IsL h' T (catN ws i) m := keep T _ hTI hT
    have hb' : IsL h' (bs i) (ws i) (ms i) := keep _ _ (hb i hlt).2.1 (hb i hlt).1
    show wpAny _ A.in1 ((holding [Value.ref (bs i)] (binaryOp .Add (.ref T) (.ref (bs i)))).attempt >>= _) _ _ _
    have hz := hsz (i + 1) hlt
    simp only [catN, Array.size_append] at hz
    refine wpAny_bind (wpAny_attempt (wpAny_holding (PySem.P.add_list hT' hb' ?_ hz)))
    have hSl : S < h'.objs.size := Heap.lt_size hS'
    have hIl : I < h'.objs.size := by obtain ⟨o, e, _⟩ := st'; exact Heap.lt_size e
    have hS1 : (h'.push { cls := .type "list", data := .seq (catN ws i ++ ws i) }).get? S = some { cls := .type "list", dict := none, data := .seq #[.ref T] c, slots := #[] } := Heap.get?_push_of_some _ hS'
    show wpAny _ A.in1 (updateSeq S (fun _ => #[.ref h'.objs.size]) >>= _) _ _ _
    refine wpAny_bind (wpAny_updateSeq hS1 rfl ?_)
    have hS2 := Heap.get?_update_self (Obj.mapSeq fun _ => #[Value.ref h'.objs.size]) hS1 rfl
    refine wpAny_bind (wpAny_letGo ?_)
    refine wpAny_bind ?_
    have up : ∀ b o, b ≠ S → h'.get? b = some o → (((h'.push { cls := .type "list", data := .seq (catN ws i ++ ws i) }).update S (Obj.mapSeq fun _ => #[Value.ref h'.objs.size])).update S (Obj.mapSeq fun _ => #[Value.ref h'.objs.size])).get? b = some o :=
      fun b o h1 e => (Heap.get?_update_other _ _ (Ne.symm h1)).trans ((Heap.get?_update_other _ _ (Ne.symm h1)).trans (Heap.get?_push_of_some _ e))
    have hnew : IsL (((h'.push { cls := .type "list", data := .seq (catN ws i ++ ws i) }).update S (Obj.mapSeq fun _ => #[Value.ref h'.objs.size])).update S (Obj.mapSeq fun _ => #[Value.ref h'.objs.size])) h'.objs.size (catN ws (i + 1)) 0 :=
      (Heap.get?_update_other _ _ (Nat.ne_of_lt hSl)).trans ((Heap.get?_update_other _ _ (Nat.ne_of_lt hSl)).trans (Heap.get?_push_size _ rfl))
    refine wpAny_updateSeq hS2 rfl (wpAny_pure ⟨plainId_quiet F.plain_sum_loop _, ih (i + 1) _ h'.objs.size _ 0 (by omega) hlt ?_ ?_ (Heap.get?_update_self _ hS2 rfl) hnew (Nat.ne_of_gt hIl) (Nat.ne_of_gt hSl) (fun j hj => ?_) fun h'' T' m' hk'' hT'' hor => ?_⟩)
    · obtain ⟨o, e, r⟩ := st'
      exact ⟨o, up _ _ (Ne.symm hSI) e, r⟩
    · obtain ⟨o, e, r⟩ := sl
      exact ⟨o, up _ _ (Ne.symm hSa) (keep _ _ hne e), r⟩
    · obtain ⟨q1, q2, q3⟩ := hb j hj
      exact ⟨up _ _ q3 (keep _ _ q2 q1), q2, q3⟩
    · refine hR h'' T' m' (fun b o h1 h2 e => hk'' b o h1 h2 (up b o h2 (keep b o h1 e))) hT'' (.inr ⟨Nat.succ_pos k, ?_⟩)
      have hge : s.heap.objs.size ≤ h'.objs.size := Nat.le_of_eq hs'.1.symm
      rcases hor with ⟨_, e⟩ | ⟨_, e⟩
      · rw [e]; exact hge
      · refine Nat.le_trans hge (Nat.le_trans ?_ e)
        have := Heap.lt_size hnew
        exact Nat.le_of_lt this
theorem sum_rawL {E : Value → Shared → Prop} {s : Shared} {E0 : Addr} {m0 : Nat} {Q : Value → Shared → Prop} (hh : A.handled = none) (hl : s.heap.IsList ax items) (hE : IsL s.heap E0 #[] m0) (hit : ∀ j, j < items.size → items[j]? = some (.ref (bs j))) (hsz : ∀ j, j ≤ items.size → (catN ws j).size ≤ sizeLine)
    (hb : ∀ j, j < items.size → IsL s.heap (bs j) (ws j) (ms j))
    (h : ∀ h' T' m', (∀ b o, s.heap.get? b = some o → h'.get? b = some o) → IsL h' T' (catN ws items.size) m' → ((items.size = 0 ∧ T' = E0) ∨ (0 < items.size ∧ s.heap.objs.size ≤ T')) → Q (.ref T') { s with heap := h' }) :
    wpAny (model prog w) A (call (.builtin "sum") [.ref ax, .ref E0]) Q E s := by
  refine call_function_tree F.kind_sum F.plain_sum F.entry_sum (args_sumTwo _ _) ?_
  unfold Builtin.«sum»
  simp only [List.length_cons, List.length_nil]
  rw [if_neg (by decide)]
  refine wpAny_bind (wpAny_of_eq (show Builtin.Builtins.bindParams "sum" ["start"] 0 ⟨[.ref E0], []⟩ = pure [some (.ref E0)] from rfl) ?_)
  refine wpAny_bind (wpAny_pyIter_list hl ?_)
  have hal : ax < s.heap.objs.size := by obtain ⟨o, e, _⟩ := hl; exact Heap.lt_size e
  have hEl : E0 < s.heap.objs.size := Heap.lt_size hE
  have hE1 : IsL (s.heap.push { cls := .type "list_iterator", data := .fields #[.ref ax, .int 0 0] }) E0 #[] m0 := Heap.get?_push_of_some _ hE
  have ty : ({ s with heap := s.heap.push { cls := .type "list_iterator", data := .fields #[.ref ax, .int 0 0] } } : Shared).TypeIs (.ref E0) "list" := Heap.IsList.typeIs ⟨_, hE1, rfl, _, rfl⟩
  refine wpAny_bind (wpAny_pure ?_)
  simp only [List.forIn_cons, List.forIn_nil]
  refine wpAny_bind (wpAny_bind (wpAny_bind (wpAny_isInstance (T := "list") (b := false) ty sub_l_str ?_)))
  simp only [Bool.false_eq_true, if_false]
  refine wpAny_pure (wpAny_bind (wpAny_bind (wpAny_isInstance (T := "list") (b := false) ty sub_l_bytes ?_)))
  simp only [Bool.false_eq_true, if_false]
  refine wpAny_pure (wpAny_bind (wpAny_bind (wpAny_isInstance (T := "list") (b := false) ty sub_l_ba ?_)))
  simp only [Bool.false_eq_true, if_false]
  refine wpAny_pure (wpAny_pure ?_)
  refine wpAny_bind (wpAny_newObj_type ?_)
  have hsz1 : (s.heap.push { cls := .type "list_iterator", data := .fields #[.ref ax, .int 0 0] }).objs.size = s.heap.objs.size + 1 := by simp [Heap.push]
  have old : ∀ b o, s.heap.get? b = some o → ((s.heap.push { cls := .type "list_iterator", data := .fields #[.ref ax, .int 0 0] }).push { cls := .type "list", data := .seq #[Value.ref E0] }).get? b = some o := fun b o e => Heap.get?_push_of_some _ (Heap.get?_push_of_some _ e)
  refine wpAny_pure ⟨plainId_quiet F.plain_sum_loop _, sum_loopL (I := s.heap.objs.size) (ax := ax) (S := (s.heap.push { cls := .type "list_iterator", data := .fields #[.ref ax, .int 0 0] }).objs.size) hh (Nat.ne_of_lt hal) (by rw [hsz1]; exact Nat.succ_ne_self _) (by rw [hsz1]; exact Nat.ne_of_gt (Nat.lt_succ_of_lt hal)) hit hsz items.size 0 _ E0 0 m0 (Nat.sub_zero _) (Nat.zero_le _)
    ⟨_, Heap.get?_push_of_some _ (Heap.get?_push_size _ rfl), rfl, rfl⟩ ?_ (Heap.get?_push_size _ rfl) (old _ _ hE) (Nat.ne_of_lt hEl) (by rw [hsz1]; exact Nat.ne_of_lt (Nat.lt_succ_of_lt hEl)) (fun j hj => ⟨old _ _ (hb j hj), Nat.ne_of_lt (Heap.lt_size (hb j hj)), by rw [hsz1]; exact Nat.ne_of_lt (Nat.lt_succ_of_lt (Heap.lt_size (hb j hj)))⟩) fun h' T' m' hk hT hor => ?_⟩
  · obtain ⟨o, e, r⟩ := hl
    exact ⟨o, old _ _ e, r⟩
  · refine h h' T' m' (fun b o e => hk b o (Nat.ne_of_lt (Heap.lt_size e)) (by rw [hsz1]; exact Nat.ne_of_lt (Nat.lt_succ_of_lt (Heap.lt_size e))) (old _ _ e)) hT ?_
    rcases hor with ⟨e1, e2⟩ | ⟨e1, e2⟩
    · exact .inl ⟨e1, e2⟩
    · refine .inr ⟨e1, Nat.le_trans ?_ e2⟩
      have h9 : ((s.heap.push { cls := .type "list_iterator", data := .fields #[.ref ax, .int 0 0] }).push { cls := .type "list", data := .seq #[Value.ref E0] }).objs.size = s.heap.objs.size + 1 + 1 := by simp [Heap.push]
      exact Nat.le_trans (Nat.le_succ_of_le (Nat.le_succ _)) (Nat.le_of_eq h9.symm)
end
section
variable {X : Cx} {K : PySem.W.Frag} {H : Hp}
/-- a tree of lists, flat -/
theorem RepL.flat {A : Addr → Prop} : ∀ {ds ys : List D} {vs : List V} {O : List Addr}, catAll ds = some ys → RepL K A H ds vs O → ∃ wss : List (List V), wss.length = vs.length ∧ (∀ (j : Nat) (v : V), vs[j]? = some v → ∃ (b : Addr) (ws : List V), v = V.ref b ∧ wss[j]? = some ws ∧ H b = some (.lst ws)) ∧
    ∃ O', O'.Sublist O ∧ RepL K A H ys wss.flatten O'
  | [], ys, vs, O, e, r => by
    simp only [catAll, Option.some.injEq] at e
    subst e
    simp only [RepL, Rep.RepL] at r
    obtain ⟨rfl, rfl⟩ := r
    exact ⟨[], rfl, fun j v h => by simp at h, [], List.Sublist.refl _, by simp [RepL, Rep.RepL]⟩
  | d :: ds, ys, vs, O, e, r => by
    cases d <;> try (simp [catAll] at e; done)
    rename_i o xs
    simp only [catAll] at e
    rw [Option.map_eq_some_iff] at e; obtain ⟨zs, e1, e⟩ := e
    subst e
    simp only [RepL, Rep.RepL] at r
    obtain ⟨v, vs', O1, O2, rfl, rfl, r1, r2⟩ := r
    obtain ⟨wss, h1, h2, O', sl, r3⟩ := RepL.flat e1 r2
    obtain ⟨a, ws, Oi, rfl, ha, hl, r4, sa⟩ := Rep.seq r1
    refine ⟨ws :: wss, by simp [h1], fun j v hj => ?_, Oi ++ O', sa.append sl, ?_⟩
    · cases j with
      | zero =>
        simp only [List.getElem?_cons_zero, Option.some.injEq] at hj
        exact ⟨a, ws, hj.symm, rfl, ha⟩
      | succ j =>
        obtain ⟨b, w2, q1, q2, q3⟩ := h2 j v (by simpa using hj)
        exact ⟨b, w2, q1, by simpa using q2, q3⟩
    · rw [List.flatten_cons]
      exact RepL.append r4 r3
theorem call_sumLD : X.calm = true → CallR X (.builtin "sum") (rDs X.K bSumL) := by
  intro hc pins s σ H xs us Q I rx h
  obtain ⟨F, ds, O, d, st, e, post⟩ := h
  have r := st.reps
  unfold bSumL at e
  split at e
  case h_2 => cases e
  rename_i o xs0
  rw [Option.bind_eq_some_iff] at e; obtain ⟨ys, e1, e⟩ := e
  simp only [Option.ite_none_right_eq_some, Option.some.injEq] at e
  obtain ⟨hlim, rfl⟩ := e
  simp only [RepL, Rep.RepL] at r
  obtain ⟨v1, vs1, O1, O2, rfl, rfl, r1, v2, vs2, O3, O4, rfl, rfl, r2, rfl, rfl⟩ := r
  obtain ⟨ax, vs, Oi, rfl, ha, hla, r3, sa⟩ := Rep.seq r1
  have r2' := r2
  simp only [Rep, Rep.RepL] at r2'
  obtain ⟨E0, ws0, Oe, rfl, rfl, hE, _, rfl, rfl⟩ := r2'
  obtain ⟨wss, hw1, hw2, O', slO, r4⟩ := RepL.flat e1 r3
  obtain ⟨u1, ut, rfl⟩ : ∃ u1 ut, us = u1 :: ut := by cases rx with | cons a b => exact ⟨_, _, rfl⟩
  obtain ⟨u2, rfl⟩ : ∃ u2, ut = [u2] := by
    cases rx with
    | cons a b => cases b with
      | cons a b => cases b; exact ⟨_, rfl⟩
  have e5 : u1 = .ref ax ∧ u2 = .ref E0 := by
    cases rx with
    | cons a b => cases b with
      | cons b c => exact ⟨a, b⟩
  obtain ⟨rfl, rfl⟩ := e5
  obtain ⟨its, n, rv, hax, hzl⟩ := I.lst ha
  obtain ⟨itsE, nE, rvE, hEo, _⟩ := I.lst hE
  obtain rfl : itsE = [] := by cases rvE; rfl
  have hlen : its.length = vs.length := rv.length.symm
  have pick : ∀ j : Nat, ∃ p : Addr × List Value × Nat, j < vs.length → its[j]? = some (.ref p.1) ∧ IsL s.heap p.1 p.2.1.toArray p.2.2 ∧ ∃ ws, wss[j]? = some ws ∧ Vals ws p.2.1 := by
    intro j
    by_cases hj : j < vs.length
    · obtain ⟨b, ws, q1, q2, q3⟩ := hw2 j vs[j] (List.getElem?_eq_getElem hj)
      obtain ⟨itb, nb, rb, hob, _⟩ := I.lst q3
      obtain ⟨u, hu, ru⟩ := Vals.get rv (List.getElem?_eq_getElem hj)
      rw [q1] at ru
      cases ru
      exact ⟨(b, itb, nb), fun _ => ⟨hu, hob, ws, q2, rb⟩⟩
    · exact ⟨(0, [], 0), fun z => absurd z hj⟩
  obtain ⟨f, hf⟩ := Classical.axiomOfChoice pick
  have hwl : wss.length = vs.length := hw1
  have cat : ∀ m, m ≤ vs.length → Vals (wss.take m).flatten (catN (fun j => (f j).2.1.toArray) m).toList := by
    intro m
    induction m with
    | zero => intro _; exact .nil
    | succ m ih =>
      intro hm
      obtain ⟨_, _, ws, q2, q3⟩ := hf m hm
      rw [catN, Array.toList_append, List.take_succ, q2, List.flatten_append]
      refine Vals.append (ih (by omega)) ?_
      simpa using q3
  have hfl : wss.flatten.length = ys.length := RepL.len r4
  have hsz : ∀ j, j ≤ its.toArray.size → (catN (fun j => (f j).2.1.toArray) j).size ≤ sizeLine := by
    intro j hj
    have hj' : j ≤ vs.length := by rw [List.size_toArray, hlen] at hj; exact hj
    have h1 := (cat j hj').length
    have h2 : (catN (fun j => (f j).2.1.toArray) j).size = (wss.take j).flatten.length := by rw [← Array.length_toList]; first | exact h1 | exact h1.symm
    rw [h2]
    have : (wss.take j).flatten.length ≤ wss.flatten.length := by
      conv => rhs; rw [← List.take_append_drop j wss, List.flatten_append, List.length_append]
      omega
    exact Nat.le_trans this (by rw [hfl]; exact hlim)
  have hall : Vals wss.flatten (catN (fun j => (f j).2.1.toArray) vs.length).toList := by
    have := cat vs.length (Nat.le_refl _)
    rw [← hwl, List.take_length] at this
    rw [← hwl]; exact this
  refine sum_rawL (bs := fun j => (f j).1) (ws := fun j => (f j).2.1.toArray) (ms := fun j => (f j).2.2) (I.ok.hd hc) ⟨_, hax, rfl, n, rfl⟩ hEo (fun j hj => ?_) hsz (fun j hj => ?_) fun h' T' m' hk hT hor => ?_
  · rw [List.size_toArray, hlen] at hj
    rw [List.getElem?_toArray]
    exact (hf j hj).1
  · rw [List.size_toArray, hlen] at hj
    exact (hf j hj).2.1
  · rw [List.size_toArray, hlen] at hT hor
    rcases hor with ⟨h0, rfl⟩ | ⟨h0, hge⟩
    · have hz : wss = [] := List.eq_nil_of_length_eq_zero (hwl.trans h0)
      have hy : ys = [] := List.eq_nil_of_length_eq_zero (by rw [← hfl, hz]; rfl)
      subst hy
      exact ⟨.ref T', H, I.kept (t' := s.toks) hk, rfl, wp_one st r2 ((List.sublist_append_left _ _).trans (List.sublist_append_right _ _)) post⟩
    · have hlz : wss.flatten.length ≤ sizeLine := by rw [hfl]; exact hlim
      exact ⟨.ref T', upd H T' (.lst wss.flatten), I.laid (t' := s.toks) hk hge ⟨hlz, _, m', hall, hT⟩, rfl, wp_lst st r4 ((slO.trans sa).trans (List.sublist_append_left _ _)) hlim post T' (I.hok.fresh hge)⟩
end
end OE

/-! Oe5: expressions, one rule a form. -/
namespace OE
open PySem PySem.Spec PyProof.Rows L2

def tT (K : PySem.W.Frag) (m : List D → Option (D × List D)) : TT := fun σ H Q => ∃ F env O b env', St K F H env σ O ∧ m env = some (.bl b, env') ∧
  ∀ H' O', Ext O H O' H' → St K F H' env' σ O' → Q b H'
/-- neither a star nor a slice -/
def plainX : Expr → Bool
  | .Starred .. => false
  | .Slice .. => false
  | .Set .. => false
  | _ => true
theorem star_plain {e : Expr} (h : plainX e = true) (es : List Expr) (env : Env) : starEach (e :: es) env = (false, eval e env) :: starEach es env := by
  cases e <;> first | rfl | (simp [plainX] at h)
theorem ix_plain {e : Expr} (h : plainX e = true) : PlainIx e := by
  intro o i
  cases e <;> first | rfl | (simp [plainX] at h)
theorem marks_plain {e : Expr} (h : plainX e = true) (op : CmpOp) : behindInMarks op e = false := by
  cases e <;> first | rfl | (simp [plainX] at h)
theorem fold_plain {e : Expr} (h : plainX e = true) (env : Env) (x : Value) : foldedSetIterable e env x = pure x := by
  cases e <;> first | rfl | (simp [plainX] at h)
theorem backTo_plain : ∀ {es : List Expr} (pos : Pos) (env : Env), es.all plainX = true → (backTo pos (starEach es env)).any (·.1) = false
  | [], pos, env, _ => rfl
  | e :: es, pos, env, h => by
    simp only [List.all_cons, Bool.and_eq_true] at h
    rw [star_plain h.1]
    have := backTo_plain (es := es) pos env h.2
    show (false || (backTo pos (starEach es env)).any (·.1)) = false
    rw [this]; rfl

/-- the names of a scope -/
def visB (sc : Scope) (n : Str) : Bool := match sc.names.lookup n with | some .local => true | some .cell => true | some .free => true | _ => false
def locB (sc : Scope) (n : Str) : Bool := match sc.names.lookup n with | some .local => true | some .cell => true | _ => false
def glB (sc : Scope) (n : Str) : Bool := match sc.names.lookup n with | some .globalImplicit => !(n == ("__debug__" : Str)) && !(n == ("__name__" : Str)) | _ => false
theorem visB_ok {sc : Scope} {n : Str} (h : visB sc n = true) : Vis sc n := by
  unfold visB at h
  unfold Vis
  split at h <;> first | (cases h; done) | (rename_i e; rw [e]; simp)
theorem locB_ok {sc : Scope} {n : Str} (h : locB sc n = true) : L2.Loc sc n := by
  unfold locB at h
  unfold L2.Loc
  split at h <;> first | (cases h; done) | (rename_i e; rw [e]; simp)
theorem glB_ok {X : Cx} {n : Str} (h : glB X.env.scope n = true) : Gl X n ∧ n ≠ "__name__" ∧ (n == ("__debug__" : Str)) = false := by
  unfold glB at h
  split at h
  · rename_i e
    simp only [Bool.and_eq_true, Bool.not_eq_true'] at h
    refine ⟨e, fun z => ?_, h.1⟩
    rw [z] at h
    simp at h
  · cases h

/-! ### the context -/
structure FI where
  name : Str
  addr : Addr
  fd : FuncData
  ps : List Str
def spD (K : PySem.W.Frag) (n : Nat) (f : List D → Option (D × List D)) : Sp := fun vs H Q _ => vs.length = n ∧ ∃ F ds O d outs, St K F H ds (vs.map some) O ∧ f ds = some (d, outs) ∧
  ∀ v H' O', Ext O H O' H' → St K F H' (d :: outs) (some v :: vs.map some) O' → Q v H'
def bltNames : List Str := ["len", "sum", "min", "max", "abs", "int", "list", "tuple", "sorted", "all", "any", "isinstance", "range", "enumerate", "reversed", "bool", "str", "dict", "repr"]
structure Ok (X : Cx) (k : Nat) (Γ : Fns) (T : List FI) : Prop where
  calm : X.calm = true
  nd : X.N.Nodup
  room : Room k X.A
  xe : X.xe = fun _ _ => False
  fns : ∀ (f : Nat) (i : FI), T[f]? = some i → X.mg i.name = some (.ref i.addr) ∧ FnOk X.prog X.w X.K X.mg X.base CX0 k i.addr i.fd i.ps (spD X.K i.ps.length (Γ f)) ∧ PySem.W.keepIn X.K (.ref i.addr) = true ∧ Binds X.K i.fd i.ps [] ∧ ∀ ds r, Γ f ds = some r → ds.length = i.ps.length
  kws : ∀ (f : Nat) (i : FI), T[f]? = some i → ∀ (np : Nat) (ks : List Str) (ix : List Nat), ix = (List.range np) ++ ks.map (fun x => i.ps.idxOf x) → np + ks.length = i.ps.length → ix.Nodup → (∀ x ∈ ks, x ∈ i.ps) →
    KBinds X.K i.fd i.ps ks (fun us ws => (List.range i.ps.length).filterMap fun j => (ix.idxOf? j).bind fun k => (us ++ ws)[k]?) (fun us ws => (List.range i.ps.length).filterMap fun j => (ix.idxOf? j).bind fun k => (us ++ ws)[k]?)
  blt : ∀ n ∈ bltNames, X.mg n = none
theorem Ok.units {X : Cx} {k : Nat} {Γ : Fns} {T : List FI} (ok : Ok X k Γ T) : X.A.units + 64 < cLine := ok.room.units

section
variable {X : Cx} {K : PySem.W.Frag} {Γ : Fns} {ios : List Nat} {a b c x y z : Expr} {pos p1 p2 p3 : Pos} {ea eb ec : E} {es : Es} {xs : List Expr} {k : Nat} {T : List FI}

theorem RepO.val {A : Addr → Prop} {H : Hp} {d : D} {ov : Option V} {O : List Addr} (r : RepO K A H d ov O) (h : d ≠ .hole) : ∃ v, ov = some v ∧ Rep K A H d v O := by
  rcases r with ⟨e, _⟩ | r
  · exact absurd e h
  · exact r
theorem getV_some {env : List D} {i : Nat} {d : D} (h : getV env i = some d) : env[i]? = some d ∧ d ≠ .hole := by
  unfold getV at h
  split at h
  · cases h
  · rename_i r hr
    refine ⟨h, fun e => ?_⟩
    subst e
    exact hr h
/-- a slot's tree taken to the front -/
theorem St.take {F : Addr → Prop} {H : Hp} {env : List D} {σ : L2.St} {O : List Addr} {i : Nat} {d : D} (st : St K F H env σ O) (h : getV env i = some d) :
    ∃ v, σ[i]? = some (some v) ∧ ∃ O', O'.Perm O ∧ St K F H (d :: env.set i .hole) (some v :: σ) O' := by
  obtain ⟨h1, h2⟩ := getV_some h
  obtain ⟨l, rr, sl, sr, ov, Ol, O1, Or, rfl, hl, rfl, hsl, rfl, r1, r2, r3⟩ := st.rep.at h1
  obtain ⟨v, rfl, r2'⟩ := r2.val h2
  refine ⟨v, by rw [← hsl]; simp, O1 ++ (Ol ++ Or), ?_, ?_⟩
  · rw [← List.append_assoc, ← List.append_assoc]
    exact List.Perm.append_right _ List.perm_append_comm
  · have pm : (O1 ++ (Ol ++ Or)).Perm (Ol ++ (O1 ++ Or)) := by
      rw [← List.append_assoc, ← List.append_assoc]
      exact List.Perm.append_right _ List.perm_append_comm
    refine ⟨pm.nodup_iff.mpr st.nd, fun a ha => st.nf a (pm.mem_iff.mp ha), st.fh, ?_⟩
    have mv : ∀ a, ¬ (F a ∨ a ∈ Ol ++ (O1 ++ Or)) → H a ≠ none → ¬ (F a ∨ a ∈ O1 ++ (Ol ++ Or)) := fun a hn _ z => hn (z.imp_right pm.mem_iff.mp)
    refine ⟨some v, _, O1, Ol ++ Or, rfl, rfl, .inr ⟨v, rfl, r2'.move d (fun _ _ e _ => e) mv⟩, ?_⟩
    have e : (l ++ d :: rr).set i D.hole = l ++ D.hole :: rr := by
      rw [← hl, List.set_append_right _ _ (Nat.le_refl _)]; simp
    rw [e]
    refine (r1.move (fun _ _ e _ => e) mv).append ⟨some v, sr, [], Or, rfl, rfl, .inl ⟨rfl, rfl⟩, r3.move (fun _ _ e _ => e) mv⟩
/-- and laid back -/
theorem St.lay {F : Addr → Prop} {H : Hp} {env : List D} {σ : L2.St} {O : List Addr} {i : Nat} {d : D} {v : V} (st : St K F H (d :: env) (some v :: σ) O) (hi : σ[i]? = some (some v)) (hh : env[i]? = some .hole) :
    ∃ O', O'.Perm O ∧ St K F H (env.set i d) σ O' := by
  obtain ⟨nd, nf, fh, ov, σ', O1, O2, e1, rfl, r1, r2⟩ := st
  obtain ⟨rfl, rfl⟩ : some v = ov ∧ σ = σ' := by simpa using e1
  obtain ⟨l, rr, sl, sr, ov, Ol, O3, Or, rfl, hl, rfl, hsl, rfl, q1, q2, q3⟩ := r2.at hh
  have e2 : ov = some v := by rw [← hsl] at hi; simpa using hi
  subst e2
  have e3 : O3 = [] := by
    rcases q2 with ⟨_, e⟩ | ⟨w, _, r⟩
    · exact e
    · simpa only [Rep] using r
  subst e3
  have e : (l ++ D.hole :: rr).set i d = l ++ d :: rr := by
    rw [← hl, List.set_append_right _ _ (Nat.le_refl _)]; simp
  rw [e]
  have pm : (Ol ++ (O1 ++ Or)).Perm (O1 ++ (Ol ++ ([] ++ Or))) := by
    rw [List.nil_append, ← List.append_assoc, ← List.append_assoc]
    exact List.Perm.append_right _ List.perm_append_comm
  refine ⟨Ol ++ (O1 ++ Or), pm, pm.nodup_iff.mpr nd, fun a ha => nf a (pm.mem_iff.mp ha), fh, ?_⟩
  have mv : ∀ a, ¬ (F a ∨ a ∈ O1 ++ (Ol ++ ([] ++ Or))) → H a ≠ none → ¬ (F a ∨ a ∈ Ol ++ (O1 ++ Or)) := fun a hn _ z => hn (z.imp_right pm.mem_iff.mp)
  exact (q1.move (fun _ _ e _ => e) mv).append ⟨some v, sr, O1, Or, rfl, rfl, r1.move (fun _ _ e _ => e) mv, q3.move (fun _ _ e _ => e) mv⟩
theorem Ext.perm {O O' P : List Addr} {H H' : Hp} (e : Ext O H O' H') (p : P.Perm O') : Ext O H P H' := e.less fun c hc => p.mem_iff.mp hc
theorem Ext.perm' {O O' P : List Addr} {H H' : Hp} (e : Ext P H O' H') (p : P.Perm O) : Ext O H O' H' := e.more fun c hc => p.mem_iff.mp hc
/-- the tree on top is shared, and stands twice -/
theorem St.share {F : Addr → Prop} {H : Hp} {env : List D} {σ : L2.St} {O : List Addr} {d : D} {v : V} (st : St K F H (d :: env) (some v :: σ) O) :
    ∃ O', (∀ a ∈ O', a ∈ O) ∧ St K F H (share d :: share d :: env) (some v :: some v :: σ) O' := by
  obtain ⟨nd, nf, fh, ov, σ', O1, O2, e1, rfl, r1, r2⟩ := st
  obtain ⟨rfl, rfl⟩ : some v = ov ∧ σ = σ' := by simpa using e1
  have nd' := List.nodup_append.mp nd
  have rs : RepO K (fun a => F a ∨ a ∈ O2) H (OE.share d) (some v) [] := by
    rcases r1 with ⟨rfl, rfl⟩ | ⟨w, e, r⟩
    · exact .inl ⟨by simp [OE.share], rfl⟩
    · cases e
      refine .inr ⟨v, rfl, Rep.share d r fun a ha => ⟨ha.imp_right fun z => List.mem_append_right _ z, fun z => ?_⟩⟩
      rcases ha with ha | ha
      · exact nf a (List.mem_append_left _ z) ha
      · exact nd'.2.2 a z a ha rfl
  refine ⟨O2, fun a ha => List.mem_append_right _ ha, nd'.2.1, fun a ha => nf a (List.mem_append_right _ ha), fh, some v, _, [], O2, rfl, rfl, rs, some v, _, [], O2, rfl, rfl, rs, ?_⟩
  exact r2.move (fun _ _ e _ => e) fun a hn _ z => hn (z.imp_right fun z => List.mem_append_right _ z)
theorem St.dropTop {F : Addr → Prop} {H : Hp} {env : List D} {σ : L2.St} {O : List Addr} {d : D} {ov : Option V} (st : St K F H (d :: env) (ov :: σ) O) : ∃ O', (∀ a ∈ O', a ∈ O) ∧ St K F H env σ O' := by
  obtain ⟨nd, nf, fh, ov, σ', O1, O2, e1, rfl, r1, r2⟩ := st
  have e1' := List.cons.inj e1
  obtain ⟨rfl, rfl⟩ := e1'
  refine ⟨O2, fun a ha => List.mem_append_right _ ha, (List.nodup_append.mp nd).2.1, fun a ha => nf a (List.mem_append_right _ ha), fh, ?_⟩
  exact r2.move (fun _ _ e _ => e) fun a hn _ z => hn (z.imp_right fun z => List.mem_append_right _ z)

/-! a name -/
theorem pe_name {i : Nat} {n : Str} (hN : X.N[i]? = some n) (hv : Vis X.env.scope n) (hd : (n == ("__debug__" : Str)) = false) (hcd : (n == ("__classdict__" : Str)) = false) {t : TE}
    (ht : ∀ σ H Q, t σ H Q → ∃ v, σ[i]? = some (some v) ∧ Q v H) : PE X (.Name n pos) t := (pe_var hN hv hd hcd).imp ht
theorem pe_sh {i : Nat} {n : Str} (hN : X.N[i]? = some n) (hv : Vis X.env.scope n) (hd : (n == ("__debug__" : Str)) = false) (hcd : (n == ("__classdict__" : Str)) = false) :
    PE X (.Name n pos) (tE K (ev Γ ios (.sh i))) := by
  refine pe_name hN hv hd hcd fun σ H Q h => ?_
  obtain ⟨F, env, O, d, env', st, e, post⟩ := h
  simp only [ev, Option.map_eq_some_iff] at e
  obtain ⟨d0, e, e'⟩ := e
  obtain ⟨rfl, rfl⟩ : OE.share d0 = d ∧ env.set i (OE.share d0) = env' := by simpa using e'
  obtain ⟨v, hv, O1, pm, st1⟩ := st.take e
  obtain ⟨O2, sub, st2⟩ := St.share st1
  obtain ⟨OP, OR, rfl, st3, back⟩ := St.tail (P := [OE.share d0]) (pv := [some v]) st2 rfl
  have hi : i < env.length := (List.getElem?_eq_some_iff.mp (getV_some e).1).1
  obtain ⟨O3, pm3, st4⟩ := St.lay st3 hv (by simp [hi])
  rw [List.set_set] at st4
  obtain ⟨ex, st5⟩ := back _ _ _ H (Ext.refl.perm pm3) st4
  refine ⟨v, hv, post v H _ (Ext.trans ?_ ex) st5⟩
  exact (Ext.refl.perm pm).less sub
theorem pe_mv {i : Nat} {n : Str} (hN : X.N[i]? = some n) (hv : Vis X.env.scope n) (hd : (n == ("__debug__" : Str)) = false) (hcd : (n == ("__classdict__" : Str)) = false) :
    PE X (.Name n pos) (tE K (ev Γ ios (.mv i))) := by
  refine pe_name hN hv hd hcd fun σ H Q h => ?_
  obtain ⟨F, env, O, d, env', st, e, post⟩ := h
  simp only [ev, Option.ite_none_left_eq_some, Option.map_eq_some_iff] at e
  obtain ⟨_, d0, e, e'⟩ := e
  obtain ⟨rfl, rfl⟩ : d0 = d ∧ env.set i .hole = env' := by simpa using e'
  obtain ⟨v, hv, O1, pm, st1⟩ := st.take e
  exact ⟨v, hv, post v H _ (Ext.refl.perm pm) st1⟩
/-! constants -/
theorem pe_flat {v : V} {d : D} {e : E} (h : PE X x (tC v)) (he : ∀ env, ev Γ ios e env = some (d, env)) (hr : ∀ A H, Rep K A H d v []) : PE X x (tE K (ev Γ ios e)) := by
  refine h.imp fun σ H Q q => ?_
  obtain ⟨F, env, O, d', env', st, e, post⟩ := q
  rw [he] at e
  cases e
  refine post v H O Ext.refl ⟨st.nd, st.nf, st.fh, some v, σ, [], O, rfl, rfl, .inr ⟨v, rfl, hr _ _⟩, st.rep⟩
/-! displays -/
theorem pe_tupD (h : PA X xs (tA X.K (evs Γ ios es))) {n : Nat} : PE X (.Tuple xs n pos) (tE X.K (ev Γ ios (.tup es))) := by
  refine (pe_tup h).imp fun σ H Q q => ?_
  obtain ⟨F, env, O, d, env', st, e, post⟩ := q
  simp only [ev, Option.bind_eq_some_iff, Option.ite_none_right_eq_some] at e
  obtain ⟨⟨ds, env1⟩, e1, hl, e2⟩ := e
  cases e2
  refine ⟨F, env, O, ds, env1, st, e1, fun vs H1 O1 ex1 st1 hlen => ⟨by rw [← hlen]; exact hl, fun p hp => ?_⟩⟩
  obtain ⟨OP, OR, rfl, st2, back⟩ := St.head (P := ds) (pv := vs.map some) st1 (by simp [hlen])
  obtain ⟨ex3, st3⟩ := st2.mkT (p := p) st2.reps st2.nd (fun _ h => h) hl hp
  obtain ⟨ex4, st4⟩ := back _ _ _ _ ex3 st3
  exact post _ _ _ (ex1.trans ex4) st4
theorem pe_lstD (h : PA X xs (tA X.K (evs Γ ios es))) : PE X (.List xs pos) (tE X.K (ev Γ ios (.lst es))) := by
  refine (pe_lst h).imp fun σ H Q q => ?_
  obtain ⟨F, env, O, d, env', st, e, post⟩ := q
  simp only [ev, Option.bind_eq_some_iff, Option.ite_none_right_eq_some] at e
  obtain ⟨⟨ds, env1⟩, e1, hl, e2⟩ := e
  cases e2
  refine ⟨F, env, O, ds, env1, st, e1, fun vs H1 O1 ex1 st1 hlen => ⟨by rw [← hlen]; exact hl, fun p hp => ?_⟩⟩
  obtain ⟨OP, OR, rfl, st2, back⟩ := St.head (P := ds) (pv := vs.map some) st1 (by simp [hlen])
  obtain ⟨ex3, st3⟩ := st2.mkL (p := p) st2.reps st2.nd (fun _ h => h) hl hp
  obtain ⟨ex4, st4⟩ := back _ _ _ _ ex3 st3
  exact post _ _ _ (ex1.trans ex4) st4
/-! operators -/
theorem pe_binD {op : BOp} (ha : PE X a (tE X.K (ev Γ ios ea))) (hb : PE X b (tE X.K (ev Γ ios eb))) : PE X (.BinOp a (bopOf op) b pos) (tE X.K (ev Γ ios (.bin op ea eb))) :=
  (pe_op (op_binD op) ha hb).imp fun σ H Q h => tE_two (by simpa only [ev] using h)
theorem un_negD : UnR X (unaryOp .USub) (rD1 X.K fun d => match d with | .int i => some (.int (-i)) | _ => none) := by
  intro pins s σ H x v Q I rx h
  obtain ⟨F, a, O, d, st, e, post⟩ := h
  have r := st.rep1
  cases a <;> simp only [reduceCtorEq, Option.some.injEq] at e
  subst e
  obtain ⟨rfl, _⟩ := Rep.intE r
  exact un_neg pins s σ H _ v Q I rx ⟨_, rfl, wp_int st post⟩
theorem pe_negD (ha : PE X a (tE X.K (ev Γ ios ea))) : PE X (.UnaryOp .USub a pos) (tE X.K (ev Γ ios (.neg ea))) := by
  refine (pe_un un_negD ha).imp fun σ H Q h => tE_one ?_
  simp only [ev] at h
  obtain ⟨F, env, O, d, env', st, e, post⟩ := h
  refine ⟨F, env, O, d, env', st, ?_, post⟩
  obtain ⟨⟨a, env1⟩, e1, e2⟩ := Option.bind_eq_some_iff.mp e
  show (ev Γ ios ea env).bind _ = _
  rw [e1]
  cases a <;> simp at e2 ⊢
  exact e2
theorem tE_bl {m : List D → Option (D × List D)} {σ : L2.St} {H : Hp} {Q : VK} {f : Bool → Bool} (h : tE K (fun env => (m env).bind fun p => match p.1 with | .bl b => some (.bl (f b), p.2) | _ => none) σ H Q) :
    tE K m σ H fun x H1 => ∃ c, x = .bl c ∧ Q (.bl (f c)) H1 := by
  obtain ⟨F, env, O, d, env', st, e, post⟩ := h
  obtain ⟨⟨a, env1⟩, e1, e2⟩ := Option.bind_eq_some_iff.mp e
  cases a <;> simp only [reduceCtorEq, Option.some.injEq, Prod.mk.injEq] at e2
  rename_i b
  obtain ⟨rfl, rfl⟩ := e2
  refine ⟨F, env, O, _, env1, st, e1, fun v H1 O1 ex st1 => ?_⟩
  obtain ⟨OP, OR, rfl, st2, back⟩ := St.head (P := [D.bl b]) (pv := [some v]) st1 rfl
  obtain ⟨rfl, rfl⟩ := Rep.blE st2.rep1
  obtain ⟨ex3, st3⟩ := st2.flat (d := .bl (f b)) (v := .bl (f b)) fun A => by simp [Rep]
  obtain ⟨ex4, st4⟩ := back _ _ _ _ ex3 st3
  exact ⟨b, rfl, post _ _ _ (ex.trans ex4) st4⟩
theorem pe_notD (ha : PE X a (tE X.K (ev Γ ios ea))) : PE X (.UnaryOp .Not a pos) (tE X.K (ev Γ ios (.not ea))) :=
  (pe_not ha).imp fun σ H Q h => tE_bl (by simp only [ev] at h; exact h)
theorem tE_tT {m : List D → Option (D × List D)} {σ : L2.St} {H : Hp} {Q : Bool → Hp → Prop} (h : tT K m σ H Q) : tB (tE K m) σ H Q := by
  obtain ⟨F, env, O, b, env', st, e, post⟩ := h
  refine ⟨F, env, O, _, env', st, e, fun v H1 O1 ex st1 => ?_⟩
  obtain ⟨OP, OR, rfl, st2, back⟩ := St.head (P := [D.bl b]) (pv := [some v]) st1 rfl
  obtain ⟨rfl, rfl⟩ := Rep.blE st2.rep1
  obtain ⟨ex3, st3⟩ := back [] [] [] H1 (Ext.refl.less fun _ h => h) ⟨List.nodup_nil, fun _ h => (nomatch h), st2.fh, rfl, rfl⟩
  exact ⟨b, rfl, post _ _ (ex.trans ex3) st3⟩
theorem pt_notD (ha : PT X a (tT X.K (ev Γ ios ea))) : PT X (.UnaryOp .Not a pos) (tT X.K (ev Γ ios (.not ea))) := by
  refine (pt_not ha).imp fun σ H Q h => ?_
  obtain ⟨F, env, O, b, env', st, e, post⟩ := h
  simp only [ev] at e
  obtain ⟨⟨a, env1⟩, e1, e2⟩ := Option.bind_eq_some_iff.mp e
  cases a <;> simp only [reduceCtorEq, Option.some.injEq, Prod.mk.injEq, D.bl.injEq] at e2
  rename_i c
  obtain ⟨rfl, rfl⟩ := e2
  exact ⟨F, env, O, c, env1, st, e1, post⟩
/-! comparisons -/
theorem pe_cmpD {op : COp} (hu : X.A.units + 64 < cLine) (ha : PE X a (tE X.K (ev Γ ios ea))) (hb : PE X b (tE X.K (ev Γ ios eb))) (hp : plainX b = true) :
    PE X (.Compare a [copOf op] [b] pos) (tE X.K (ev Γ ios (.cmp op ea eb))) := by
  refine (pe_cmpR (op_cmpD hu op) ha hb (marks_plain hp _)).imp fun σ H Q h => tE_two (f := fun a b => (cmpD op a b).map D.bl) ?_
  obtain ⟨F, env, O, d, env', st, e, post⟩ := h
  refine ⟨F, env, O, d, env', st, ?_, post⟩
  simpa [ev, Option.map_map, Function.comp_def] using e
theorem pt_cmpD {op : COp} (hu : X.A.units + 64 < cLine) (ha : PE X a (tE X.K (ev Γ ios ea))) (hb : PE X b (tE X.K (ev Γ ios eb))) (hp : plainX b = true) :
    PT X (.Compare a [copOf op] [b] pos) (tT X.K (ev Γ ios (.cmp op ea eb))) := by
  refine (pt_cmpR (op_cmpD hu op) ha hb (marks_plain hp _)).imp fun σ H Q h => ?_
  have h := tE_tT h
  refine tE_two (f := fun a b => (cmpD op a b).map D.bl) ?_
  obtain ⟨F, env, O, d, env', st, e, post⟩ := h
  refine ⟨F, env, O, d, env', st, ?_, post⟩
  simpa [ev, Option.map_map, Function.comp_def] using e
end
end OE

/-! Oe6: chains, and, or, if, subscripts, slices, built-in calls. -/
namespace OE
open PySem PySem.Spec PyProof.Rows L2

section
variable {X : Cx} {K : PySem.W.Frag} {Γ : Fns} {ios : List Nat} {a b c x y z : Expr} {pos p1 p2 p3 : Pos} {ea eb ec e : E} {es : Es} {xs rest : List Expr} {k : Nat} {T : List FI}
variable {F : Addr → Prop} {H : Hp} {env : List D} {σ : L2.St} {O : List Addr} {v : V} {d : D}

theorem St.flatTop (st : St K F H (d :: env) (some v :: σ) O) (h : noOwn d = true) : St K F H env σ O ∧ Rep K (fun a => F a ∨ a ∈ O) H d v [] := by
  obtain ⟨nd, nf, fh, ov, σ', O1, O2, e1, rfl, r1, r2⟩ := st
  obtain ⟨rfl, rfl⟩ : some v = ov ∧ σ = σ' := by simpa using e1
  rcases r1 with ⟨rfl, rfl⟩ | ⟨w, e, r⟩
  · exact ⟨⟨nd, nf, fh, r2⟩, by simp [Rep]⟩
  · cases e
    obtain rfl := Rep.nil d r h
    exact ⟨⟨nd, nf, fh, r2⟩, r⟩
theorem St.intTop {i : Int} (st : St K F H (.int i :: env) (some v :: σ) O) : v = .int i ∧ St K F H env σ O := by
  obtain ⟨h1, h2⟩ := St.flatTop st rfl
  exact ⟨(Rep.intE h2).1, h1⟩
theorem St.blTop {i : Bool} (st : St K F H (.bl i :: env) (some v :: σ) O) : v = .bl i ∧ St K F H env σ O := by
  obtain ⟨h1, h2⟩ := St.flatTop st rfl
  exact ⟨(Rep.blE h2).1, h1⟩
theorem St.push (st : St K F H env σ O) (r : ∀ A, Rep K A H d v []) : St K F H (d :: env) (some v :: σ) O :=
  ⟨st.nd, st.nf, st.fh, some v, σ, [], O, rfl, rfl, .inr ⟨v, rfl, r _⟩, st.rep⟩
theorem St.pushBl {i : Bool} (st : St K F H env σ O) : St K F H (.bl i :: env) (some (.bl i) :: σ) O := st.push fun A => by simp [Rep]
theorem St.pushInt {i : Int} (st : St K F H env σ O) : St K F H (.int i :: env) (some (.int i) :: σ) O := st.push fun A => by simp [Rep]

/-! chains of ints -/
def rC (op : COp) : R2 := fun x y H Q => ∃ i j b, x = .int i ∧ y = .int j ∧ cmpD op (.int i) (.int j) = some b ∧ Q (.bl b) H
theorem eqD_int (i j : Int) : eqD (.int i) (.int j) = some (i == j) := by simp [eqD, plainD, within, toPy, PyData.eqv]
theorem op_cmpI (op : COp) : OpR X (compareOp (copOf op)) (rC op) := by
  intro pins s σ H x y v u Q I rx ry h
  obtain ⟨i, j, b, rfl, rfl, e, q⟩ := h
  cases op <;> simp only [cmpD, eqD_int, Option.some.injEq, Option.map_some, reduceCtorEq] at e
  · refine op_eq pins s σ H _ _ v u Q I rx ry ⟨rfl, ?_⟩
    rw [dec_int, e]; exact q
  · refine op_ne pins s σ H _ _ v u Q I rx ry ⟨rfl, ?_⟩
    rw [dec_int, e]; exact q
  · exact op_lt pins s σ H _ _ v u Q I rx ry ⟨_, _, rfl, rfl, by subst e; exact q⟩
  · exact op_le pins s σ H _ _ v u Q I rx ry ⟨_, _, rfl, rfl, by subst e; exact q⟩
  · exact op_gt pins s σ H _ _ v u Q I rx ry ⟨_, _, rfl, rfl, by subst e; exact q⟩
  · exact op_ge pins s σ H _ _ v u Q I rx ry ⟨_, _, rfl, rfl, by subst e; exact q⟩
theorem tE_chain {o1 o2 : COp} {Q : VK} (h : tE K (ev Γ ios (.chain o1 o2 ea eb ec)) σ H Q) : tChain (rC o1) (rC o2) (tE K (ev Γ ios ea)) (tE K (ev Γ ios eb)) (tE K (ev Γ ios ec)) σ H Q := by
  obtain ⟨F, env, O, d, env', st, e, post⟩ := h
  simp only [ev] at e
  rw [Option.bind_eq_some_iff] at e; obtain ⟨⟨d1, env1⟩, e1, e⟩ := e
  rw [Option.bind_eq_some_iff] at e; obtain ⟨⟨d2, env2⟩, e2, e⟩ := e
  cases d1 <;> simp only [reduceCtorEq] at e
  cases d2 <;> simp only [reduceCtorEq] at e
  rename_i i j
  rw [Option.bind_eq_some_iff] at e; obtain ⟨t1, h1, e⟩ := e
  refine ⟨F, env, O, _, env1, st, e1, fun x H1 O1 ex1 st1 => ?_⟩
  obtain ⟨e0, q0⟩ := st1.intTop; clear st1; subst e0; have st1 := q0; clear q0
  refine ⟨F, env1, O1, _, env2, st1, e2, fun y H2 O2 ex2 st2 => ?_⟩
  obtain ⟨e0, q0⟩ := st2.intTop; clear st2; subst e0; have st2 := q0; clear q0
  refine ⟨i, j, t1, rfl, rfl, h1, t1, rfl, ?_⟩
  cases t1 with
  | false =>
    rw [if_neg (by simp)]
    simp only [Option.some.injEq, Prod.mk.injEq] at e
    obtain ⟨rfl, rfl⟩ := e
    exact post _ _ _ (ex1.trans ex2) st2.pushBl
  | true =>
    rw [if_pos rfl]
    simp only at e
    rw [Option.bind_eq_some_iff] at e; obtain ⟨⟨d3, env3⟩, e3, e⟩ := e
    cases d3 <;> simp only [reduceCtorEq] at e
    rename_i k
    rw [Option.map_eq_some_iff] at e; obtain ⟨t2, h2, e⟩ := e
    simp only [Prod.mk.injEq] at e
    obtain ⟨rfl, rfl⟩ := e
    refine ⟨F, env2, O2, _, env3, st2, e3, fun w H3 O3 ex3 st3 => ?_⟩
    obtain ⟨e0, q0⟩ := st3.intTop; clear st3; subst e0; have st3 := q0; clear q0
    exact ⟨j, k, t2, rfl, rfl, h2, post _ _ _ (ex1.trans (ex2.trans ex3)) st3.pushBl⟩
theorem last_plain {o1 o2 : CmpOp} (h : plainX c = true) : lastMarks [o1, o2] [b, c] = false := marks_plain h o2
theorem pe_chainD {o1 o2 : COp} (ha : PE X a (tE X.K (ev Γ ios ea))) (hb : PE X b (tE X.K (ev Γ ios eb))) (hc : PE X c (tE X.K (ev Γ ios ec))) (hp : plainX c = true) :
    PE X (.Compare a [copOf o1, copOf o2] [b, c] pos) (tE X.K (ev Γ ios (.chain o1 o2 ea eb ec))) :=
  (pe_chain (op_cmpI o1) (op_cmpI o2) ha hb hc (last_plain hp)).imp fun σ H Q h => tE_chain h
theorem pt_chainD {o1 o2 : COp} (ha : PE X a (tE X.K (ev Γ ios ea))) (hb : PE X b (tE X.K (ev Γ ios eb))) (hc : PE X c (tE X.K (ev Γ ios ec))) (hp : plainX c = true) :
    PT X (.Compare a [copOf o1, copOf o2] [b, c] pos) (tT X.K (ev Γ ios (.chain o1 o2 ea eb ec))) :=
  (pt_chain (op_cmpI o1) (op_cmpI o2) ha hb hc (last_plain hp)).imp fun σ H Q h => tE_chain (tE_tT h)

/-! and, or -/
theorem pe_one_and (h : PE X x (tE X.K (ev Γ ios e))) : PE X (.BoolOp .And [x] pos) (tE X.K (evAnd Γ ios (.cons e .nil))) := by
  refine (pe_one h).imp fun σ H Q q => ?_
  obtain ⟨F, env, O, d, env', st, e1, post⟩ := q
  refine ⟨F, env, O, d, env', st, ?_, post⟩
  simp only [evAnd] at e1
  rw [Option.bind_eq_some_iff] at e1; obtain ⟨⟨d1, env1⟩, e2, e1⟩ := e1
  rw [e2]
  cases d1 <;> simp only [reduceCtorEq] at e1
  rename_i b
  cases b <;> exact e1
theorem pe_one_or (h : PE X x (tE X.K (ev Γ ios e))) : PE X (.BoolOp .Or [x] pos) (tE X.K (evOr Γ ios (.cons e .nil))) := by
  refine (pe_one h).imp fun σ H Q q => ?_
  obtain ⟨F, env, O, d, env', st, e1, post⟩ := q
  refine ⟨F, env, O, d, env', st, ?_, post⟩
  simp only [evOr] at e1
  rw [Option.bind_eq_some_iff] at e1; obtain ⟨⟨d1, env1⟩, e2, e1⟩ := e1
  rw [e2]
  cases d1 <;> simp only [reduceCtorEq] at e1
  rename_i b
  cases b <;> exact e1
theorem pe_cons_and (h : PE X x (tE X.K (ev Γ ios e))) (hr : PE X (.BoolOp .And (y :: rest) pos) (tE X.K (evAnd Γ ios es))) : PE X (.BoolOp .And (x :: y :: rest) pos) (tE X.K (evAnd Γ ios (.cons e es))) := by
  refine (pe_and h hr).imp fun σ H Q q => ?_
  obtain ⟨F, env, O, d, env', st, e1, post⟩ := q
  simp only [evAnd] at e1
  rw [Option.bind_eq_some_iff] at e1; obtain ⟨⟨d1, env1⟩, e2, e1⟩ := e1
  cases d1 <;> simp only [reduceCtorEq] at e1
  rename_i b
  refine ⟨F, env, O, _, env1, st, e2, fun v H1 O1 ex1 st1 => ?_⟩
  obtain ⟨e0, q0⟩ := st1.blTop; clear st1; subst e0; have st1 := q0; clear q0
  refine ⟨b, rfl, ?_⟩
  cases b with
  | true =>
    rw [if_pos rfl]
    exact ⟨F, env1, O1, d, env', st1, e1, fun v H2 O2 ex2 st2 => post _ _ _ (ex1.trans ex2) st2⟩
  | false =>
    rw [if_neg (by simp)]
    simp only [Option.some.injEq, Prod.mk.injEq] at e1
    obtain ⟨rfl, rfl⟩ := e1
    exact post _ _ _ ex1 st1.pushBl
theorem pe_cons_or (h : PE X x (tE X.K (ev Γ ios e))) (hr : PE X (.BoolOp .Or (y :: rest) pos) (tE X.K (evOr Γ ios es))) : PE X (.BoolOp .Or (x :: y :: rest) pos) (tE X.K (evOr Γ ios (.cons e es))) := by
  refine (pe_or h hr).imp fun σ H Q q => ?_
  obtain ⟨F, env, O, d, env', st, e1, post⟩ := q
  simp only [evOr] at e1
  rw [Option.bind_eq_some_iff] at e1; obtain ⟨⟨d1, env1⟩, e2, e1⟩ := e1
  cases d1 <;> simp only [reduceCtorEq] at e1
  rename_i b
  refine ⟨F, env, O, _, env1, st, e2, fun v H1 O1 ex1 st1 => ?_⟩
  obtain ⟨e0, q0⟩ := st1.blTop; clear st1; subst e0; have st1 := q0; clear q0
  refine ⟨b, rfl, ?_⟩
  cases b with
  | false =>
    rw [if_neg (by simp)]
    exact ⟨F, env1, O1, d, env', st1, e1, fun v H2 O2 ex2 st2 => post _ _ _ (ex1.trans ex2) st2⟩
  | true =>
    rw [if_pos rfl]
    simp only [Option.some.injEq, Prod.mk.injEq] at e1
    obtain ⟨rfl, rfl⟩ := e1
    exact post _ _ _ ex1 st1.pushBl
theorem _root_.L2.PW.imp {X : Cx} {e : Expr} {t t' : TT} (h : PW X e t) (i : ∀ σ H Q, t' σ H Q → t σ H Q) : PW X e t' := ⟨fun wh pins s σ H Q I w => h.run wh pins s σ H Q I (i σ H Q w)⟩
theorem pw_one_and (h : PT X x (tT X.K (ev Γ ios e))) : PW X (.BoolOp .And [x] pos) (tT X.K (evAnd Γ ios (.cons e .nil))) := by
  refine (pw_and1 h).imp fun σ H Q q => ?_
  obtain ⟨F, env, O, d, env', st, e1, post⟩ := q
  refine ⟨F, env, O, d, env', st, ?_, post⟩
  simp only [evAnd] at e1
  rw [Option.bind_eq_some_iff] at e1; obtain ⟨⟨d1, env1⟩, e2, e1⟩ := e1
  rw [e2]
  cases d1 <;> simp only [reduceCtorEq] at e1
  rename_i b
  cases b <;> exact e1
theorem pw_one_or (h : PT X x (tT X.K (ev Γ ios e))) : PW X (.BoolOp .Or [x] pos) (tT X.K (evOr Γ ios (.cons e .nil))) := by
  refine (pw_or1 h).imp fun σ H Q q => ?_
  obtain ⟨F, env, O, d, env', st, e1, post⟩ := q
  refine ⟨F, env, O, d, env', st, ?_, post⟩
  simp only [evOr] at e1
  rw [Option.bind_eq_some_iff] at e1; obtain ⟨⟨d1, env1⟩, e2, e1⟩ := e1
  rw [e2]
  cases d1 <;> simp only [reduceCtorEq] at e1
  rename_i b
  cases b <;> exact e1
theorem pw_cons_and (h : PT X x (tT X.K (ev Γ ios e))) (hr : PW X (.BoolOp .And (y :: rest) pos) (tT X.K (evAnd Γ ios es))) : PW X (.BoolOp .And (x :: y :: rest) pos) (tT X.K (evAnd Γ ios (.cons e es))) := by
  refine (pw_and h hr).imp fun σ H Q q => ?_
  obtain ⟨F, env, O, d, env', st, e1, post⟩ := q
  simp only [evAnd] at e1
  rw [Option.bind_eq_some_iff] at e1; obtain ⟨⟨d1, env1⟩, e2, e1⟩ := e1
  cases d1 <;> simp only [reduceCtorEq] at e1
  rename_i b
  refine ⟨F, env, O, b, env1, st, e2, fun H1 O1 ex1 st1 => ?_⟩
  cases b with
  | true =>
    rw [if_pos rfl]
    exact ⟨F, env1, O1, d, env', st1, e1, fun H2 O2 ex2 st2 => post _ _ (ex1.trans ex2) st2⟩
  | false =>
    rw [if_neg (by simp)]
    simp only [Option.some.injEq, Prod.mk.injEq, D.bl.injEq] at e1
    obtain ⟨rfl, rfl⟩ := e1
    exact post _ _ ex1 st1
theorem pw_cons_or (h : PT X x (tT X.K (ev Γ ios e))) (hr : PW X (.BoolOp .Or (y :: rest) pos) (tT X.K (evOr Γ ios es))) : PW X (.BoolOp .Or (x :: y :: rest) pos) (tT X.K (evOr Γ ios (.cons e es))) := by
  refine (pw_or h hr).imp fun σ H Q q => ?_
  obtain ⟨F, env, O, d, env', st, e1, post⟩ := q
  simp only [evOr] at e1
  rw [Option.bind_eq_some_iff] at e1; obtain ⟨⟨d1, env1⟩, e2, e1⟩ := e1
  cases d1 <;> simp only [reduceCtorEq] at e1
  rename_i b
  refine ⟨F, env, O, b, env1, st, e2, fun H1 O1 ex1 st1 => ?_⟩
  cases b with
  | false =>
    rw [if_neg (by simp)]
    exact ⟨F, env1, O1, d, env', st1, e1, fun H2 O2 ex2 st2 => post _ _ (ex1.trans ex2) st2⟩
  | true =>
    rw [if_pos rfl]
    simp only [Option.some.injEq, Prod.mk.injEq, D.bl.injEq] at e1
    obtain ⟨rfl, rfl⟩ := e1
    exact post _ _ ex1 st1
theorem pe_iteD (hc : PT X c (tT X.K (ev Γ ios ec))) (ha : PE X a (tE X.K (ev Γ ios ea))) (hb : PE X b (tE X.K (ev Γ ios eb))) : PE X (.IfExp c a b pos) (tE X.K (ev Γ ios (.ite ec ea eb))) := by
  refine (pe_ifExp hc ha hb).imp fun σ H Q q => ?_
  obtain ⟨F, env, O, d, env', st, e1, post⟩ := q
  simp only [ev] at e1
  rw [Option.bind_eq_some_iff] at e1; obtain ⟨⟨d1, env1⟩, e2, e1⟩ := e1
  cases d1 <;> simp only [reduceCtorEq] at e1
  rename_i b
  refine ⟨F, env, O, b, env1, st, e2, fun H1 O1 ex1 st1 => ?_⟩
  cases b with
  | true =>
    rw [if_pos rfl]
    exact ⟨F, env1, O1, d, env', st1, e1, fun v H2 O2 ex2 st2 => post _ _ _ (ex1.trans ex2) st2⟩
  | false =>
    rw [if_neg (by simp)]
    exact ⟨F, env1, O1, d, env', st1, e1, fun v H2 O2 ex2 st2 => post _ _ _ (ex1.trans ex2) st2⟩
/-! subscripts, slices -/
theorem pe_subD (ha : PE X a (tE X.K (ev Γ ios ea))) (hb : PE X b (tE X.K (ev Γ ios eb))) (hp : plainX b = true) : PE X (.Subscript a b pos) (tE X.K (ev Γ ios (.sub ea eb))) :=
  (pe_ix ix_subD ha hb (ix_plain hp)).imp fun σ H Q h => tE_two (by simpa only [ev] using h)
theorem RepL.dropL {A : Addr → Prop} : ∀ {ds : List D} {vs : List V} {O : List Addr} (n : Nat), RepL K A H ds vs O → ∃ O', O'.Sublist O ∧ RepL K A H (ds.drop n) (vs.drop n) O'
  | ds, vs, O, 0, r => ⟨O, List.Sublist.refl _, r⟩
  | [], vs, O, n + 1, r => by
    have r' := r
    simp only [RepL, Rep.RepL] at r
    obtain ⟨rfl, rfl⟩ := r
    exact ⟨[], List.Sublist.refl _, r'⟩
  | d :: ds, vs, O, n + 1, r => by
    simp only [RepL, Rep.RepL] at r
    obtain ⟨v, vs', O1, O2, rfl, rfl, r1, r2⟩ := r
    obtain ⟨O', h1, h2⟩ := RepL.dropL n r2
    exact ⟨O', h1.trans (List.sublist_append_right _ _), h2⟩
theorem RepL.takeL {A : Addr → Prop} : ∀ {ds : List D} {vs : List V} {O : List Addr} (n : Nat), RepL K A H ds vs O → ∃ O', O'.Sublist O ∧ RepL K A H (ds.take n) (vs.take n) O'
  | ds, vs, O, 0, r => ⟨[], List.nil_sublist _, by simp [RepL, Rep.RepL]⟩
  | [], vs, O, n + 1, r => by
    have r' := r
    simp only [RepL, Rep.RepL] at r
    obtain ⟨rfl, rfl⟩ := r
    exact ⟨[], List.Sublist.refl _, r'⟩
  | d :: ds, vs, O, n + 1, r => by
    simp only [RepL, Rep.RepL] at r
    obtain ⟨v, vs', O1, O2, rfl, rfl, r1, r2⟩ := r
    obtain ⟨O', h1, h2⟩ := RepL.takeL n r2
    refine ⟨O1 ++ O', (List.Sublist.refl _).append h1, ?_⟩
    simp only [RepL, List.take_succ_cons, Rep.RepL]
    exact ⟨v, _, O1, O', rfl, rfl, r1, h2⟩
theorem RepL.cut {A : Addr → Prop} {ds : List D} {vs : List V} {O : List Addr} (lo hi : Option Int) (r : RepL K A H ds vs O) : ∃ O', O'.Sublist O ∧ RepL K A H (cutD ds lo hi) (cutV vs lo hi) O' := by
  unfold cutD cutV
  rw [RepL.len r]
  obtain ⟨O1, h1, r1⟩ := RepL.dropL (HT.sIx ds.length 0 lo) r
  obtain ⟨O2, h2, r2⟩ := RepL.takeL (HT.sIx ds.length ds.length hi - HT.sIx ds.length 0 lo) r1
  exact ⟨O2, h2.trans h1, r2⟩
theorem cutD_len {α : Type} (xs : List α) (lo hi : Option Int) : (cutD xs lo hi).length ≤ xs.length := by
  unfold cutD; rw [List.length_take, List.length_drop]; omega
theorem cutD_whole {α : Type} (xs : List α) (lo hi : Option Int) (h : HT.sIx xs.length 0 lo = 0 ∧ HT.sIx xs.length xs.length hi = xs.length) : cutD xs lo hi = xs := by
  unfold cutD; rw [h.1, h.2]; simp
theorem cutD_map {α β : Type} (f : α → β) (xs : List α) (lo hi : Option Int) : cutD (xs.map f) lo hi = (cutD xs lo hi).map f := by
  unfold cutD; rw [List.length_map, List.map_take, List.map_drop]
def rSlD (K : PySem.W.Frag) : V → Option Int → Option Int → Hp → VK → Prop := fun x lo hi H Q => ∃ F a O d, St K F H [a] [some x] O ∧ slcD a lo hi = some d ∧ wpD K F O H d Q
theorem sl_D : SlR X (rSlD X.K) := by
  intro pins s σ H x v vl vu lo hi sl Q I rx hs pl pu h
  obtain ⟨F, a, O, d, st, e, post⟩ := h
  have r := st.rep1
  cases a <;> simp only [slcD, reduceCtorEq, Option.some.injEq] at e <;> subst e
  · rename_i ds
    obtain ⟨a, vs, rfl, ht, hl, r2⟩ := Rep.tupE r
    have lenE := RepL.len r2
    refine sl_tupA pins s σ H _ v vl vu lo hi sl Q I rx hs pl pu ⟨a, vs, rfl, ht, fun hw => ?_, fun _ => ?_⟩
    · rw [cutD_whole _ _ _ (by rw [← lenE]; exact hw)] at post
      exact wp_one st r (List.Sublist.refl _) post
    · obtain ⟨O', h1, h2⟩ := RepL.cut lo hi r2
      exact wp_tup st h2 h1 (Nat.le_trans (cutD_len _ _ _) hl) post
  · rename_i o ds
    obtain ⟨a, vs, Oi, rfl, ht, hl, r2, sb⟩ := Rep.seq r
    obtain ⟨O', h1, h2⟩ := RepL.cut lo hi r2
    exact sl_list pins s σ H _ v vl vu lo hi sl Q I rx hs pl pu ⟨a, vs, rfl, .inl (.inl ht), wp_lst st h2 (h1.trans sb) (Nat.le_trans (cutD_len _ _ _) hl) post⟩
  · rename_i ns
    obtain ⟨_, a, rfl, ht, _⟩ := Rep.scrE r
    refine sl_list pins s σ H _ v vl vu lo hi sl Q I rx hs pl pu ⟨a, _, rfl, ht, ?_⟩
    have e : cutV (ns.map V.int) lo hi = (cutD ns lo hi).map V.int := cutD_map V.int ns lo hi
    rw [e]
    refine wp_lst st (RepL.ofInts _) (List.nil_sublist _) ?_ post
    obtain ⟨its, r, p, hz⟩ := I.list ht
    rw [List.length_map] at hz ⊢
    exact Nat.le_trans (cutD_len _ _ _) hz
theorem pe_slcD {fl fh : Bool} {lo hi : Option Expr} {el eh : E} (ha : PE X a (tE X.K (ev Γ ios ea)))
    (hlo : if fl = true then ∃ l, lo = some l ∧ PE X l (tE X.K (ev Γ ios el)) else lo = none) (hhi : if fh = true then ∃ l, hi = some l ∧ PE X l (tE X.K (ev Γ ios eh)) else hi = none) :
    PE X (.Subscript a (.Slice lo hi none p2) pos) (tE X.K (ev Γ ios (.slc ea fl el fh eh))) := by
  have fin : ∀ {F : Addr → Prop} {σ : L2.St} {env1 : List D} {O1 : List Addr} {H0 H1 : Hp} {O : List Addr} {d1 d : D} {x : V} {l u : Option Int} {Q : VK}, St X.K F H1 (d1 :: env1) (some x :: σ) O1 → Ext O H0 O1 H1 → slcD d1 l u = some d →
      (∀ v H' O', Ext O H0 O' H' → St X.K F H' (d :: env1) (some v :: σ) O' → Q v H') → rSlD X.K x l u H1 Q := by
    intro F σ env1 O1 H0 H1 O d1 d x l u Q st ex e post
    obtain ⟨OP, OR, rfl, st2, back⟩ := St.head (P := [d1]) (pv := [some x]) st rfl
    refine ⟨_, d1, OP, d, st2, e, fun v H' O' ex' st' => ?_⟩
    obtain ⟨ex3, st3⟩ := back _ _ _ _ ex' st'
    exact post v H' _ (ex.trans ex3) st3
  cases fl <;> cases fh <;> simp only [if_true, if_false, Bool.false_eq_true, reduceIte] at hlo hhi
  · subst hlo hhi
    refine (pe_slice sl_D ha po_none po_none).imp fun σ H Q q => ?_
    obtain ⟨F, env, O, d, env', st, e, post⟩ := q
    simp only [ev, if_false, Bool.false_eq_true, reduceIte, Option.bind_some] at e
    rw [Option.bind_eq_some_iff] at e; obtain ⟨⟨d1, env1⟩, e1, e⟩ := e
    rw [Option.map_eq_some_iff] at e; obtain ⟨d', e2, e⟩ := e
    simp only [Prod.mk.injEq] at e
    obtain ⟨rfl, rfl⟩ := e
    exact ⟨F, env, O, d1, env1, st, e1, fun x H1 O1 ex1 st1 => fin st1 ex1 e2 post⟩
  · obtain ⟨u, rfl, hu⟩ := hhi
    subst hlo
    refine (pe_slice sl_D ha po_none (po_some hu)).imp fun σ H Q q => ?_
    obtain ⟨F, env, O, d, env', st, e, post⟩ := q
    simp only [ev, if_false, Bool.false_eq_true, reduceIte, Option.bind_some, if_true] at e
    rw [Option.bind_eq_some_iff] at e; obtain ⟨⟨d1, env1⟩, e1, e⟩ := e
    rw [Option.bind_eq_some_iff] at e; obtain ⟨⟨hi, env2⟩, e2, e⟩ := e
    rw [Option.bind_eq_some_iff] at e2; obtain ⟨⟨d2, env2'⟩, e3, e2⟩ := e2
    cases d2 <;> simp only [reduceCtorEq, Option.some.injEq, Prod.mk.injEq] at e2
    obtain ⟨rfl, rfl⟩ := e2
    rw [Option.map_eq_some_iff] at e; obtain ⟨d', e4, e⟩ := e
    simp only [Prod.mk.injEq] at e
    obtain ⟨rfl, rfl⟩ := e
    refine ⟨F, env, O, d1, env1, st, e1, fun x H1 O1 ex1 st1 => ?_⟩
    obtain ⟨OP, OR, rfl, st2, back⟩ := St.tail (P := [d1]) (pv := [some x]) st1 rfl
    refine ⟨_, env1, OR, _, _, st2, e3, fun y H2 O2 ex2 st3 => ?_⟩
    obtain ⟨e0, q0⟩ := st3.intTop; clear st3; subst e0; have st3 := q0; clear q0
    obtain ⟨ex4, st4⟩ := back _ _ _ _ ex2 st3
    exact ⟨_, rfl, fin st4 (ex1.trans ex4) e4 post⟩
  · obtain ⟨u, rfl, hu⟩ := hlo
    subst hhi
    refine (pe_slice sl_D ha (po_some hu) po_none).imp fun σ H Q q => ?_
    obtain ⟨F, env, O, d, env', st, e, post⟩ := q
    simp only [ev, if_false, Bool.false_eq_true, reduceIte, Option.bind_some, if_true] at e
    rw [Option.bind_eq_some_iff] at e; obtain ⟨⟨d1, env1⟩, e1, e⟩ := e
    rw [Option.bind_eq_some_iff] at e; obtain ⟨⟨hi, env2⟩, e2, e⟩ := e
    rw [Option.bind_eq_some_iff] at e2; obtain ⟨⟨d2, env2'⟩, e3, e2⟩ := e2
    cases d2 <;> simp only [reduceCtorEq, Option.some.injEq, Prod.mk.injEq] at e2
    obtain ⟨rfl, rfl⟩ := e2
    rw [Option.map_eq_some_iff] at e; obtain ⟨d', e4, e⟩ := e
    simp only [Prod.mk.injEq] at e
    obtain ⟨rfl, rfl⟩ := e
    refine ⟨F, env, O, d1, env1, st, e1, fun x H1 O1 ex1 st1 => ?_⟩
    obtain ⟨OP, OR, rfl, st2, back⟩ := St.tail (P := [d1]) (pv := [some x]) st1 rfl
    refine ⟨_, env1, OR, _, _, st2, e3, fun y H2 O2 ex2 st3 => ?_⟩
    obtain ⟨e0, q0⟩ := st3.intTop; clear st3; subst e0; have st3 := q0; clear q0
    obtain ⟨ex4, st4⟩ := back _ _ _ _ ex2 st3
    exact ⟨_, rfl, fin st4 (ex1.trans ex4) e4 post⟩
  · obtain ⟨l, rfl, hl⟩ := hlo
    obtain ⟨u, rfl, hu⟩ := hhi
    refine (pe_slice sl_D ha (po_some hl) (po_some hu)).imp fun σ H Q q => ?_
    obtain ⟨F, env, O, d, env', st, e, post⟩ := q
    simp only [ev, if_true] at e
    rw [Option.bind_eq_some_iff] at e; obtain ⟨⟨d1, env1⟩, e1, e⟩ := e
    rw [Option.bind_eq_some_iff] at e; obtain ⟨⟨lo, env2⟩, e2, e⟩ := e
    rw [Option.bind_eq_some_iff] at e2; obtain ⟨⟨d2, env2'⟩, e3, e2⟩ := e2
    cases d2 <;> simp only [reduceCtorEq, Option.some.injEq, Prod.mk.injEq] at e2
    obtain ⟨rfl, rfl⟩ := e2
    rw [Option.bind_eq_some_iff] at e; obtain ⟨⟨hi, env3⟩, e5, e⟩ := e
    rw [Option.bind_eq_some_iff] at e5; obtain ⟨⟨d3, env3'⟩, e6, e5⟩ := e5
    cases d3 <;> simp only [reduceCtorEq, Option.some.injEq, Prod.mk.injEq] at e5
    obtain ⟨rfl, rfl⟩ := e5
    rw [Option.map_eq_some_iff] at e; obtain ⟨d', e4, e⟩ := e
    simp only [Prod.mk.injEq] at e
    obtain ⟨rfl, rfl⟩ := e
    refine ⟨F, env, O, d1, env1, st, e1, fun x H1 O1 ex1 st1 => ?_⟩
    obtain ⟨OP, OR, rfl, st2, back⟩ := St.tail (P := [d1]) (pv := [some x]) st1 rfl
    refine ⟨_, env1, OR, _, _, st2, e3, fun y H2 O2 ex2 st3 => ?_⟩
    obtain ⟨e0, q0⟩ := st3.intTop; clear st3; subst e0; have st3 := q0; clear q0
    obtain ⟨ex4, st4⟩ := back _ _ _ _ ex2 st3
    refine ⟨_, rfl, ?_⟩
    obtain ⟨OP, OR, e9, st5, back⟩ := St.tail (P := [d1]) (pv := [some x]) st4 rfl
    refine ⟨_, _, OR, _, _, st5, e6, fun y H3 O3 ex5 st6 => ?_⟩
    obtain ⟨e0, q0⟩ := st6.intTop; clear st6; subst e0; have st6 := q0; clear q0
    obtain ⟨ex7, st7⟩ := back _ _ _ _ ex5 st6
    exact ⟨_, rfl, fin st7 (ex1.trans (ex4.trans ex7)) e4 post⟩
theorem RepL.rev {A : Addr → Prop} : ∀ {ds : List D} {vs : List V} {O : List Addr}, RepL K A H ds vs O → ∃ O', O'.Perm O ∧ RepL K A H ds.reverse vs.reverse O'
  | [], vs, O, r => by
    have r' := r
    simp only [RepL, Rep.RepL] at r
    obtain ⟨rfl, rfl⟩ := r
    exact ⟨[], List.Perm.refl _, r'⟩
  | d :: ds, vs, O, r => by
    simp only [RepL, Rep.RepL] at r
    obtain ⟨v, vs', O1, O2, rfl, rfl, r1, r2⟩ := r
    obtain ⟨O', h1, h2⟩ := RepL.rev r2
    rw [List.reverse_cons, List.reverse_cons]
    refine ⟨O' ++ O1, (h1.append_right _).trans List.perm_append_comm, RepL.append h2 ?_⟩
    simp only [RepL, Rep.RepL]
    exact ⟨v, [], O1, [], rfl, by simp, r1, rfl, rfl⟩
theorem pe_rvsD {kk : Nat} (ha : PE X a (tE X.K (ev Γ ios ea))) : PE X (.Subscript a (.Slice none none (some (.UnaryOp .USub (.Constant (.int 1) kk p1) p2)) p3) pos) (tE X.K (ev Γ ios (.rvs ea))) := by
  refine (pe_revL ha).imp fun σ H Q q => ?_
  obtain ⟨F, env, O, d, env', st, e, post⟩ := q
  simp only [ev] at e
  rw [Option.bind_eq_some_iff] at e; obtain ⟨⟨d1, env1⟩, e1, e⟩ := e
  cases d1 <;> simp only [reduceCtorEq, Option.some.injEq, Prod.mk.injEq] at e
  obtain ⟨rfl, rfl⟩ := e
  refine ⟨F, env, O, _, env1, st, e1, fun x H1 O1 ex1 st1 => ?_⟩
  obtain ⟨OP, OR, rfl, st2, back⟩ := St.head (pv := [some x]) (P := [_]) st1 rfl
  obtain ⟨a, vs, Oi, rfl, ht, hl, r2, sb⟩ := Rep.seq st2.rep1
  obtain ⟨O', h1, h2⟩ := RepL.rev r2
  refine ⟨a, vs, rfl, .inl (.inl ht), fun p hp => ?_⟩
  obtain ⟨ex3, st3⟩ := st2.mkL (p := p) h2 (h1.nodup_iff.mpr (st2.nd.sublist sb)) (fun b hb => sb.subset (h1.mem_iff.mp hb)) (by rw [List.length_reverse]; exact hl) hp
  obtain ⟨ex4, st4⟩ := back _ _ _ _ ex3 st3
  exact post _ _ _ (ex1.trans ex4) st4
end
end OE

/-! Oe7: built-in calls, places, calls of defs. -/
namespace OE
open PySem PySem.Spec PyProof.Rows L2

section
variable {X : Cx} {K : PySem.W.Frag} {Γ : Fns} {ios : List Nat} {a b c x y z : Expr} {pos p1 p2 p3 p apos : Pos} {ea eb ec e : E} {es : Es} {xs rest : List Expr} {k : Nat} {T : List FI} {n : Str}
variable {F : Addr → Prop} {H : Hp} {env : List D} {σ : L2.St} {O : List Addr} {v : V} {d : D}

/-! built-in functions -/
theorem pe_bltB {id : String} {f : List D → Option D} (hc : CallR X (.builtin id) (rDs X.K f)) (hg : glB X.env.scope n = true) (hm : X.mg n = none) (hv : bootBuiltins n = some (.builtin id))
    (ha : PA X (x :: xs) (tA X.K (evs Γ ios es))) (hp : (x :: xs).all plainX = true) :
    PE X (.Call (.Name n p) (x :: xs) [] pos) (tE X.K fun env => (evs Γ ios es env).bind fun q => (f q.1).map fun d => (d, q.2)) := by
  obtain ⟨h1, h2, h3⟩ := glB_ok hg
  simp only [List.all_cons, Bool.and_eq_true] at hp
  exact (pe_callB hc h1 hm hv ha h2 h3 (star_plain hp.1 _ _) (backTo_plain _ _ hp.2)).imp fun σ H Q h => tE_args h
theorem pe_bltT {id : String} {f : List D → Option D} (hc : CallR X (.type id) (rDs X.K f)) (hg : glB X.env.scope n = true) (hm : X.mg n = none) (hv : bootBuiltins n = some (.type id))
    (ha : PA X (x :: xs) (tA X.K (evs Γ ios es))) (hp : (x :: xs).all plainX = true) :
    PE X (.Call (.Name n p) (x :: xs) [] pos) (tE X.K fun env => (evs Γ ios es env).bind fun q => (f q.1).map fun d => (d, q.2)) := by
  obtain ⟨h1, h2, h3⟩ := glB_ok hg
  simp only [List.all_cons, Bool.and_eq_true] at hp
  exact (pe_callTy hc h1 hm hv ha h2 h3 (star_plain hp.1 _ _) (backTo_plain _ _ hp.2)).imp fun σ H Q h => tE_args h
/-! bit_length of a name -/
theorem pe_bitsD {m : Str} {pn : Pos} (ha : PE X (.Name m pn) (tE X.K (ev Γ ios ea))) (hl : (apos.endLine == pos.line) = true) :
    PE X (.Call (.Attribute (.Name m pn) "bit_length" apos) [] [] pos) (tE X.K (ev Γ ios (.blt .bits (.cons ea .nil)))) := by
  refine (pe_bits ha (by rfl) hl).imp fun σ H Q q => ?_
  obtain ⟨F, env, O, d, env', st, e, post⟩ := q
  simp only [ev, evs, bltD] at e
  rw [Option.bind_eq_some_iff] at e; obtain ⟨⟨ds, env1⟩, e1, e⟩ := e
  rw [Option.bind_eq_some_iff] at e1; obtain ⟨⟨d1, env2⟩, e2, e1⟩ := e1
  simp only [Option.map_some, Option.some.injEq, Prod.mk.injEq] at e1
  obtain ⟨rfl, rfl⟩ := e1
  rw [Option.map_eq_some_iff] at e; obtain ⟨d', e3, e⟩ := e
  simp only [Prod.mk.injEq] at e
  obtain ⟨rfl, rfl⟩ := e
  cases d1 <;> simp only [bBits, reduceCtorEq, Option.some.injEq] at e3
  subst e3
  refine ⟨F, env, O, _, env2, st, e2, fun x H1 O1 ex1 st1 => ?_⟩
  obtain ⟨e0, q0⟩ := st1.intTop
  exact ⟨_, e0, post _ _ _ ex1 q0.pushInt⟩

/-! isinstance -/
theorem boot_ty (t : Ty) : bootBuiltins (Str.ofString (tyV' t)) = some (.type (tyV' t)) := by cases t <;> decide +kernel
theorem tys_kit {d : D} : ∀ {ts : List Ty} {b : Bool}, isTys d ts = some b → PySem.W.kitAny K (tyOf d) (ts.map fun t => .type (tyV' t)) = some b
  | [], _, e => by simp only [isTys, Option.some.injEq] at e; subst e; exact kitAny_nil
  | t :: ts, b, e => by
    simp only [isTys] at e
    split at e
    · cases e
    · rename_i e1
      cases e
      exact kitAny_cons (ty_kit e1) (fun z => by cases z) fun _ => rfl
    · rename_i e1
      exact kitAny_cons (ty_kit e1) (fun _ => tys_kit e) fun z => by cases z
theorem tys_hole {d : D} {t : Ty} {ts : List Ty} {b : Bool} (e : isTys d (t :: ts) = some b) : d ≠ .hole := by
  intro h; subst h; simp [isTys, isTy] at e
theorem pe_tyName {t : Ty} (hg : glB X.env.scope n = true) (hm : X.mg n = none) (hn : n = Str.ofString (tyV' t)) : PE X (.Name n p) (tC (.ty (tyV' t))) := by
  obtain ⟨h1, h2, h3⟩ := glB_ok hg
  exact pe_bltn h1 hm (by rw [hn]; exact boot_ty t) rfl h2 h3
theorem pe_isI1 {t : Ty} {m : Str} (hm : X.mg "isinstance" = none) (hg : glB X.env.scope "isinstance" = true) (ha : PE X a (tE X.K (ev Γ ios ea))) (hp : plainX a = true)
    (hg2 : glB X.env.scope m = true) (hm2 : X.mg m = none) (hn : m = Str.ofString (tyV' t)) :
    PE X (.Call (.Name "isinstance" p) [a, .Name m p1] [] pos) (tE X.K (ev Γ ios (.isI ea [t]))) := by
  obtain ⟨h1, h2, h3⟩ := glB_ok hg
  refine (pe_callB (es := [.Name m p1]) call_isi h1 hm PyProof.Rows.boot_isinstance (pa_cons ha (pa_cons (pe_tyName hg2 hm2 hn) pa_nil (by rfl)) (star_plain hp _ _)) h2 h3 (star_plain hp _ _) (by rfl)).imp fun σ H Q q => ?_
  obtain ⟨F, env, O, d, env', st, e, post⟩ := q
  simp only [ev] at e
  rw [Option.bind_eq_some_iff] at e; obtain ⟨⟨d1, env1⟩, e1, e⟩ := e
  rw [Option.map_eq_some_iff] at e; obtain ⟨b, e2, e⟩ := e
  simp only [Prod.mk.injEq] at e
  obtain ⟨rfl, rfl⟩ := e
  refine ⟨F, env, O, d1, env1, st, e1, fun x H1 O1 ex1 st1 => ?_⟩
  obtain ⟨OP, OR, rfl, st2, back⟩ := St.head (P := [d1]) (pv := [some x]) st1 rfl
  have e3 : isTy d1 t = some b := by
    simp only [isTys] at e2
    split at e2
    · cases e2
    · rename_i h; cases e2; exact h
    · rename_i h; cases e2; exact h
  obtain ⟨ex3, st3⟩ := back [] [] [] H1 (Ext.refl.less fun _ h => (nomatch h)) ⟨List.nodup_nil, fun _ h => (nomatch h), st2.fh, rfl, rfl⟩
  exact ⟨x, .ty (tyV' t), tyOf d1, .type (tyV' t), b, rfl, .ty _, ty_rep st2.rep1 (isTy_hole e3), ty_kit e3, post _ _ _ (ex1.trans ex3) st3.pushBl⟩
/-- the names of classes, one after another -/
theorem pa_tys : ∀ {ts : List Ty} {xs : List Expr}, (∀ m ∈ bltNames, X.mg m = none) → (xs.length = ts.length ∧ ∀ (j : Nat) (t : Ty) (x : Expr), ts[j]? = some t → xs[j]? = some x → ∃ m p, x = .Name m p ∧ glB X.env.scope m = true ∧ m = Str.ofString (tyV' t) ∧ m ∈ bltNames) →
    PA X xs (fun _ H Q => Q (ts.map fun t => .ty (tyV' t)) H)
  | [], [], _, _ => pa_nil
  | [], _ :: _, _, h => by simp at h
  | _ :: _, [], _, h => by simp at h
  | t :: ts, x :: xs, hb, ⟨hl, h⟩ => by
    obtain ⟨m, p, rfl, h1, h2, h3⟩ := h 0 t x rfl rfl
    have ih := pa_tys (ts := ts) (xs := xs) hb ⟨by simpa using hl, fun j t x e1 e2 => h (j + 1) t x (by simpa using e1) (by simpa using e2)⟩
    exact pa_cons (pe_tyName h1 (hb _ h3) h2) ih (by rfl)
theorem clsV_all : ∀ ts : List Ty, Paired ClsV (ts.map fun t => V.ty (tyV' t)) (ts.map fun t => Value.type (tyV' t))
  | [] => .nil
  | t :: ts => .cons (.ty _) (clsV_all ts)
theorem pe_isIT {t0 : Ty} {ts : List Ty} {xs : List Expr} {kk : Nat} (hm : X.mg "isinstance" = none) (hg : glB X.env.scope "isinstance" = true) (ha : PE X a (tE X.K (ev Γ ios ea))) (hp : plainX a = true)
    (hb : ∀ m ∈ bltNames, X.mg m = none) (hx : (xs.length = (t0 :: ts).length ∧ ∀ (j : Nat) (t : Ty) (x : Expr), (t0 :: ts)[j]? = some t → xs[j]? = some x → ∃ m p, x = .Name m p ∧ glB X.env.scope m = true ∧ m = Str.ofString (tyV' t) ∧ m ∈ bltNames)) (hl : (t0 :: ts).length ≤ 100) :
    PE X (.Call (.Name "isinstance" p) [a, .Tuple xs kk p1] [] pos) (tE X.K (ev Γ ios (.isI ea (t0 :: ts)))) := by
  obtain ⟨h1, h2, h3⟩ := glB_ok hg
  refine (pe_callB (es := [.Tuple xs kk p1]) call_isiT h1 hm PyProof.Rows.boot_isinstance (pa_cons ha (pa_cons (pe_tup (pa_tys hb hx)) pa_nil (by rfl)) (star_plain hp _ _)) h2 h3 (star_plain hp _ _) (by rfl)).imp fun σ H Q q => ?_
  obtain ⟨F, env, O, d, env', st, e, post⟩ := q
  simp only [ev] at e
  rw [Option.bind_eq_some_iff] at e; obtain ⟨⟨d1, env1⟩, e1, e⟩ := e
  rw [Option.map_eq_some_iff] at e; obtain ⟨b, e2, e⟩ := e
  simp only [Prod.mk.injEq] at e
  obtain ⟨rfl, rfl⟩ := e
  refine ⟨F, env, O, d1, env1, st, e1, fun x H1 O1 ex1 st1 => ⟨by rw [List.length_map]; exact Nat.le_trans hl (by rw [sizeLine_eq]; decide), fun p hp => ?_⟩⟩
  obtain ⟨OP, OR, rfl, st2, back⟩ := St.head (P := [d1]) (pv := [some x]) st1 rfl
  have hf : ∀ a, (fun x => F x ∨ x ∈ OR) a → upd H1 p (.tup ((t0 :: ts).map fun t => .ty (tyV' t))) a ≠ none := fun a ha => by
    by_cases e : a = p
    · subst e; rw [upd_same]; simp
    · rw [upd_ne e]; exact st2.fh a ha
  obtain ⟨ex3, st3⟩ := back [] [] [] (upd H1 p (.tup ((t0 :: ts).map fun t => .ty (tyV' t)))) ((Ext.newT hp).less fun _ h => (nomatch h)) ⟨List.nodup_nil, fun _ h => (nomatch h), hf, rfl, rfl⟩
  have r2 := st2.rep1.move (H' := upd H1 p (.tup ((t0 :: ts).map fun t => .ty (tyV' t)))) d1 (fun a o e _ => by rw [upd_ne (ne_of_none e hp)]; exact e) (fun a hn _ => hn)
  exact ⟨x, p, _, tyOf d1, _, b, rfl, upd_same, clsV_all _, ty_rep r2 (tys_hole e2), tys_kit e2, post _ _ _ (ex1.trans ex3) st3.pushBl⟩

/-! places -/
theorem RepS.slot {A : Addr → Prop} {i : Nat} (r : RepS K A H env σ O) (h : getV env i = some d) : ∃ v Oi, σ[i]? = some (some v) ∧ Rep K A H d v Oi ∧ Oi.Sublist O := by
  obtain ⟨h1, h2⟩ := getV_some h
  obtain ⟨l, rr, sl, sr, ov, Ol, O1, Or, rfl, hl, rfl, hsl, rfl, r1, r2, r3⟩ := r.at h1
  obtain ⟨v, rfl, r2'⟩ := r2.val h2
  exact ⟨v, O1, by rw [← hsl]; simp, r2', (List.sublist_append_left _ _).trans (List.sublist_append_right _ _)⟩
theorem RepS.intAt {A : Addr → Prop} {i : Nat} {n : Int} (r : RepS K A H env σ O) (h : env[i]? = some (.int n)) : σ[i]? = some (some (.int n)) := by
  obtain ⟨v, Oi, h1, h2, _⟩ := RepS.slot (i := i) (d := .int n) r (by unfold getV; rw [h])
  rw [h1, (Rep.intE h2).1]
def rB (K : PySem.W.Frag) : R2 := fun x y H Q => ∃ A d' Od k d, Rep K A H d' x Od ∧ y = .int k ∧ subD d' (.int k) = some d ∧ ∀ v O', Rep K A H d v O' → O'.Sublist Od → Q v H
theorem ix_B : IxR X (rB X.K) := by
  intro value slice pins s σ H x y v u Q I rx ry h hs
  obtain ⟨A, d', Od, k, d, ra, rfl, e, post⟩ := h
  cases d' <;> simp only [subD, reduceCtorEq] at e
  · obtain ⟨a, vs, rfl, ha, hla, ra'⟩ := Rep.tupE ra
    obtain ⟨w, Oj, h1, h2, h3⟩ := RepL.atI ra' e
    exact ix_tup value slice pins s σ H _ _ v u Q I rx ry ⟨a, vs, _, w, rfl, rfl, ha, h1, post w Oj h2 h3⟩ hs
  · obtain ⟨a, vs, Oi, rfl, ha, hla, ra', sa⟩ := Rep.seq ra
    obtain ⟨w, Oj, h1, h2, h3⟩ := RepL.atI ra' e
    exact ix_list value slice pins s σ H _ _ v u Q I rx ry ⟨a, vs, _, w, rfl, rfl, .inl (.inl ha), h1, post w Oj h2 (h3.trans sa)⟩ hs
  · rename_i ns
    obtain ⟨_, a, rfl, ha, _⟩ := Rep.scrE ra
    rw [Option.map_eq_some_iff] at e; obtain ⟨n, e1, rfl⟩ := e
    refine ix_list value slice pins s σ H _ _ v u Q I rx ry ⟨a, _, _, .int n, rfl, rfl, ha, ?_, post _ [] (by simp [Rep]) (List.nil_sublist _)⟩ hs
    unfold L2.atI at e1 ⊢
    rw [List.length_map]
    rw [Option.bind_eq_some_iff] at e1; obtain ⟨j, e2, e3⟩ := e1
    rw [e2]
    simp [e3]
/-- what an index means, how it is written -/
def tIx (K : PySem.W.Frag) (ix : Ix) : TE := fun σ H Q => ∃ A env O k, RepS K A H env σ O ∧ ixv env ix = some k ∧ Q (.int k) H
def nameB (N : List Str) (sc : Scope) (i : Nat) : Expr → Bool
  | .Name n _ => decide (N[i]? = some n) && visB sc n && !(n == ("__debug__" : Str)) && !(n == ("__classdict__" : Str))
  | _ => false
theorem pe_nameB {i : Nat} (h : nameB X.N X.env.scope i x = true) : PE X x (tVar i) := by
  cases x <;> simp only [nameB, Bool.and_eq_true, decide_eq_true_eq, Bool.not_eq_true', reduceCtorEq, Bool.false_eq_true] at h
  obtain ⟨⟨⟨h1, h2⟩, h3⟩, h4⟩ := h
  exact pe_var h1 (visB_ok h2) h3 h4
def ixB (N : List Str) (sc : Scope) : Ix → Expr → Bool
  | .n k, .Constant (.int j) _ _ => decide (j = k)
  | .n k, .UnaryOp .USub (.Constant (.int j) _ _) _ => decide (-j = k)
  | .v i, x => nameB N sc i x
  | .vp i c, .BinOp x .Add (.Constant (.int j) _ _) _ => nameB N sc i x && decide (j = c)
  | .vm i c, .BinOp x .Sub (.Constant (.int j) _ _) _ => nameB N sc i x && decide (j = c)
  | _, _ => false
theorem ixv_int {i : Nat} {k : Int} (h : ixv env (.v i) = some k) : env[i]? = some (.int k) := by
  simp only [ixv] at h
  split at h
  · cases h; assumption
  · cases h
theorem pe_ixE {ix : Ix} (h : ixB X.N X.env.scope ix x = true) : PE X x (tIx X.K ix) ∧ plainX x = true := by
  unfold ixB at h
  split at h
  · have h := of_decide_eq_true h
    subst h
    refine ⟨pe_int.imp fun σ H Q q => ?_, rfl⟩
    obtain ⟨A, env, O, k, r, e, q⟩ := q
    simp only [ixv, Option.some.injEq] at e
    subst e
    exact q
  · have h := of_decide_eq_true h
    subst h
    refine ⟨(pe_un un_neg pe_int).imp fun σ H Q q => ?_, rfl⟩
    obtain ⟨A, env, O, k, r, e, q⟩ := q
    simp only [ixv, Option.some.injEq] at e
    subst e
    exact ⟨_, rfl, q⟩
  · refine ⟨(pe_nameB h).imp fun σ H Q q => ?_, ?_⟩
    · obtain ⟨A, env, O, k, r, e, q⟩ := q
      exact ⟨_, r.intAt (ixv_int e), q⟩
    · rename_i i
      cases x <;> simp [nameB] at h
      rfl
  · simp only [Bool.and_eq_true, decide_eq_true_eq] at h
    obtain ⟨h1, rfl⟩ := h
    refine ⟨(pe_op op_add (pe_nameB h1) pe_int).imp fun σ H Q q => ?_, rfl⟩
    obtain ⟨A, env, O, k, r, e, q⟩ := q
    simp only [ixv] at e
    split at e
    · rename_i k' hk
      cases e
      exact ⟨_, r.intAt hk, _, _, rfl, rfl, q⟩
    · cases e
  · simp only [Bool.and_eq_true, decide_eq_true_eq] at h
    obtain ⟨h1, rfl⟩ := h
    refine ⟨(pe_op op_sub (pe_nameB h1) pe_int).imp fun σ H Q q => ?_, rfl⟩
    obtain ⟨A, env, O, k, r, e, q⟩ := q
    simp only [ixv] at e
    split at e
    · rename_i k' hk
      cases e
      exact ⟨_, r.intAt hk, _, _, rfl, rfl, q⟩
    · cases e
  · cases h
def plB (N : List Str) (sc : Scope) (i : Nat) : List Ix → Expr → Bool
  | [], x => nameB N sc i x
  | ix :: r, .Subscript v s _ => ixB N sc ix s && plB N sc i r v
  | _, _ => false
/-- a place, looked at -/
def tPl (K : PySem.W.Frag) (i : Nat) (rxs : List Ix) : TE := fun σ H Q => ∃ A0 env O A root v0 O0 d, RepS K A0 H env σ O ∧ σ[i]? = some (some v0) ∧ Rep K A H root v0 O0 ∧ getP env root rxs = some d ∧ ∀ v Od, Rep K A H d v Od → Od.Sublist O0 → Q v H
theorem pe_plB {i : Nat} : ∀ {rxs : List Ix} {x : Expr}, plB X.N X.env.scope i rxs x = true → PE X x (tPl X.K i rxs) ∧ plainX x = true
  | [], x, h => by
    refine ⟨(pe_nameB (i := i) h).imp fun σ H Q q => ?_, ?_⟩
    · obtain ⟨A0, env, O, A, root, v0, O0, d, r, e1, r0, e2, q⟩ := q
      simp only [getP, Option.some.injEq] at e2
      subst e2
      exact ⟨v0, e1, q v0 O0 r0 (List.Sublist.refl _)⟩
    · simp only [plB] at h
      cases x <;> simp [nameB] at h
      rfl
  | ix :: rxs, x, h => by
    cases x <;> simp only [plB, Bool.and_eq_true, Bool.false_eq_true] at h
    obtain ⟨h1, h2⟩ := h
    obtain ⟨ih, _⟩ := pe_plB h2
    obtain ⟨hx, hp⟩ := pe_ixE h1
    refine ⟨(pe_ix ix_B ih hx (ix_plain hp)).imp fun σ H Q q => ?_, rfl⟩
    obtain ⟨A0, env, O, A, root, v0, O0, d, r, e1, r0, e2, q⟩ := q
    simp only [getP] at e2
    rw [Option.bind_eq_some_iff] at e2; obtain ⟨d', e3, e2⟩ := e2
    rw [Option.bind_eq_some_iff] at e2; obtain ⟨k, e4, e2⟩ := e2
    refine ⟨A0, env, O, A, root, v0, O0, d', r, e1, r0, e3, fun v Od h1 h2 => ?_⟩
    exact ⟨A0, env, O, k, r, e4, A, d', Od, k, d, h1, rfl, e2, fun w O' h3 h4 => q w O' h3 (h4.trans h2)⟩
theorem St.pushRep {A : Addr → Prop} (st : St K F H env σ O) (r : Rep K (fun a => F a ∨ a ∈ O) H d v []) : St K F H (d :: env) (some v :: σ) O :=
  ⟨st.nd, st.nf, st.fh, some v, σ, [], O, rfl, rfl, .inr ⟨v, rfl, r⟩, st.rep⟩
theorem pe_lenD {i : Nat} {rxs : List Ix} (hm : X.mg "len" = none) (hg : glB X.env.scope "len" = true) (h : plB X.N X.env.scope i rxs x = true) :
    PE X (.Call (.Name "len" p) [x] [] pos) (tE X.K (ev Γ ios (.len i rxs))) := by
  obtain ⟨hx, hp⟩ := pe_plB h
  obtain ⟨h1, h2, h3⟩ := glB_ok hg
  refine (pe_callB (es := []) call_len_seq h1 hm PySem.boot_len (pa_cons hx pa_nil (star_plain hp _ _)) h2 h3 (star_plain hp _ _) (by rfl)).imp fun σ H Q q => ?_
  obtain ⟨F, env, O, d, env', st, e, post⟩ := q
  simp only [ev, place, bltD] at e
  rw [Option.bind_eq_some_iff] at e; obtain ⟨d1, e1, e⟩ := e
  rw [Option.bind_eq_some_iff] at e1; obtain ⟨root, e0, e1⟩ := e1
  rw [Option.map_eq_some_iff] at e; obtain ⟨d2, e2, e⟩ := e
  simp only [Prod.mk.injEq] at e
  obtain ⟨rfl, rfl⟩ := e
  obtain ⟨v0, O0, g1, g2, g3⟩ := st.rep.slot e0
  refine ⟨_, env, O, _, root, v0, O0, d1, st.rep, g1, g2, e1, fun v Od r sb => ?_⟩
  cases d1 <;> simp only [bLen, reduceCtorEq, Option.some.injEq] at e2 <;> subst e2
  · obtain ⟨a, vs, rfl, ht, hl, r2⟩ := Rep.tupE r
    refine ⟨a, vs, rfl, .inr ht, ?_⟩
    rw [RepL.len r2]
    exact post _ _ _ Ext.refl st.pushInt
  · obtain ⟨a, vs, Oi, rfl, ht, hl, r2, _⟩ := Rep.seq r
    refine ⟨a, vs, rfl, .inl (.inl (.inl ht)), ?_⟩
    rw [RepL.len r2]
    exact post _ _ _ Ext.refl st.pushInt
  · obtain ⟨_, a, rfl, ht, _⟩ := Rep.scrE r
    refine ⟨a, _, rfl, .inl ht, ?_⟩
    rw [List.length_map]
    exact post _ _ _ Ext.refl st.pushInt
theorem pe_pkD {i : Nat} {rxs : List Ix} (h : plB X.N X.env.scope i rxs x = true) : PE X x (tE X.K (ev Γ ios (.pk i rxs))) := by
  obtain ⟨hx, hp⟩ := pe_plB h
  refine hx.imp fun σ H Q q => ?_
  obtain ⟨F, env, O, d, env', st, e, post⟩ := q
  simp only [ev] at e
  rw [Option.bind_eq_some_iff] at e; obtain ⟨root, e0, e⟩ := e
  rw [Option.bind_eq_some_iff] at e; obtain ⟨d1, e1, e⟩ := e
  obtain ⟨v0, hv0, O1, pm, st1⟩ := st.take e0
  obtain ⟨nd, nf, fh, ov, σ', O0, O2, q1, rfl, r1, r2⟩ := id st1
  obtain ⟨rfl, rfl⟩ : some v0 = ov ∧ σ = σ' := by simpa using q1
  obtain ⟨w, e2, r0⟩ := r1.val (getV_some e0).2
  cases e2
  refine ⟨_, env, O, _, root, v0, O0, d1, st.rep, hv0, r0, e1, fun v Od r sb => ?_⟩
  split at e
  · rename_i hn
    cases e
    obtain rfl := Rep.nil d r hn
    refine post _ _ _ Ext.refl (St.pushRep (A := fun _ => False) st (r.move d (fun _ _ e _ => e) fun a hn _ z => hn (z.imp_right fun z => pm.mem_iff.mpr z)))
  · cases e
    have rs : Rep X.K (fun a => F a ∨ a ∈ O2) H (OE.share d1) v [] := Rep.share d1 r fun a ha => by
      refine ⟨ha.imp_right fun z => List.mem_append_right _ z, fun z => ?_⟩
      rcases ha with ha | ha
      · exact nf a (List.mem_append_left _ (sb.subset z)) ha
      · exact (List.nodup_append.mp nd).2.2 a (sb.subset z) a ha rfl
    obtain ⟨O3, hsub, st2⟩ := St.share st1
    have hi : i < env.length := (List.getElem?_eq_some_iff.mp (getV_some e0).1).1
    -- the slots without the tree; its own lists are nobody's now
    have stR : St X.K F H (env.set i .hole) σ O2 := ⟨(List.nodup_append.mp nd).2.1, fun a ha => nf a (List.mem_append_right _ ha), fh, r2.move (fun _ _ e _ => e) fun a hn _ z => hn (z.imp_right fun z => List.mem_append_right _ z)⟩
    have rr : Rep X.K (fun a => F a ∨ a ∈ O2) H (OE.share root) v0 [] := Rep.share root r0 fun a ha => by
      refine ⟨ha.imp_right fun z => List.mem_append_right _ z, fun z => ?_⟩
      rcases ha with ha | ha
      · exact nf a (List.mem_append_left _ z) ha
      · exact (List.nodup_append.mp nd).2.2 a z a ha rfl
    obtain ⟨O4, pm4, st4⟩ := St.lay (St.pushRep (A := fun _ => False) stR rr) hv0 (by simp [hi])
    rw [List.set_set] at st4
    refine post v H O4 (Ext.refl.less fun a ha => pm.mem_iff.mp (List.mem_append_right _ (pm4.mem_iff.mp ha))) (St.pushRep (A := fun _ => False) st4 (rs.move _ (fun _ _ e _ => e) fun a hn _ z => hn (z.imp_right fun z => pm4.mem_iff.mp z)))
end
end OE

/-! OeG: defs that are called while no repr is under way (that is what repr itself asks of its caller). -/
namespace OE
open PySem PySem.Spec PyProof.Rows L2

abbrev quietA (A : Around) : Prop := A.guards = some []
/-- a def's promise, for callers within no repr -/
structure FnG (P : Program) (w : World) (K : PySem.W.Frag) (mg : Str → Option Value) (base : Heap) (CX : CXT) (k : Nat) (f : Addr) (fd : FuncData) (ps : List Str) (sp : Sp) : Prop where
  len : ∀ vs H Q E, sp vs H Q E → vs.length = ps.length
  run : ∀ (A : Around) (fr : List Env) (s : Shared) (H : Hp) (args : Args) (us : List Value) (vs : List V) (Q : VK) (E : XK), quietA A → Room k A → Env0 P w K mg base A fr s H →
    BindsTo s fd args (ps.zip us) → Vals vs us → sp vs H Q E → codeAny (model P w) A (.call (.ref f) args) (CR CX fr P w H s Q E) s
theorem quiet_deeper {A : Around} (h : quietA A) (env : Env) : quietA (A.deeper env) := h
section
variable {CX : CXT} {P : Program} {w : World} {K : PySem.W.Frag} {mg : Str → Option Value} {base : Heap} {k : Nat} {f : Addr} {fd : FuncData} {x qual : Str} {params : Arguments} {body : List Stmt} {scope : Scope} {dvs : List V} {kws : List (Str × V)} {N ps : List Str} {sp : Sp}
/-- a def by its body -/
theorem fnG_of (F : FunD K x qual params body scope dvs kws f fd) (S : FnScope N ps scope) (len : ∀ vs H Q E, sp vs H Q E → vs.length = ps.length)
    (hb0 : ∀ (cdv : Value) (A : Around) (fr : List Env) (s : Shared) (H : Hp) (vs : List V) (Q : VK) (E : XK), quietA (A.deeper (envOfC qual scope s.heap.objs.size f cdv)) → Room k (A.deeper (envOfC qual scope s.heap.objs.size f cdv)) → sp vs H Q E →
      ∃ t, PSs (cxOf CX P w K mg base N qual scope f cdv A fr s H E) body t ∧ t { nx := fun _ H1 => Q .non H1, rt := Q } (start N vs) H) : FnG P w K mg base CX (k + 1) f fd ps sp := by
  obtain ⟨oc, od, dV, kV, doc, pm, an, cdv, ct, osl, rfl, look, code, _, _⟩ := F.ex
  refine ⟨len, fun A fr s H args us vs Q E quiet room e0 binds rel want => ?_⟩
  have stays : ∀ b o, base.get? b = some o → s.heap.get? b = some o := fun b o e => (e0.bs b o e).1
  have inK : K.In s.heap := e0.mod.kin.keeps stays
  have noLim : s.heap.NoLimit := e0.mod.nolimit.keeps stays
  have kinds : ∀ y ∈ ps.zip us, scope.names.lookup y.1 = some .local ∨ (scope.names.lookup y.1 = some .cell ∧ ((cellsFrom (s.heap.objs.size + 1) scope.names []).lookup y.1).isSome = true) := by
    rintro ⟨m, v⟩ hy
    exact (S.par m (List.of_mem_zip hy).1).imp_right fun q => ⟨q, PySem.W.cellsFrom_some _ _ _ (.inl q)⟩
  apply codeAny_call_function room.depth (inK _ _ look) rfl S.co S.gen rfl (PySem.W.codeRec_of inK code)
  apply binds
  apply wpAny_newFunctionEnv_cells S.kind kinds
  intro env he s1 entry
  subst he
  refine ⟨noLim.keeps entry.toInCall.keep, codeAny_func ?_⟩
  obtain ⟨t, ht, start⟩ := hb0 cdv A fr s H vs Q E (quiet_deeper quiet _) (room.deeper _) want
  have inv0 := inv_start (CX := CX) (P := P) (w := w) (mg := mg) (base := base) (E := E) S room.hd e0 (len _ _ _ _ want) rel entry
  have done : ∀ {τ : L2.St} {H1 : Hp} {v : V} {u : Value} {s2 : Shared}, Inv (cxOf CX P w K mg base N qual scope f cdv A fr s H E) [] τ H1 s2 → RelV v u → Q v H1 → CE fr P w H s Q u s2 :=
    fun {τ H1 v u s2} J rv q => ⟨v, H1, J.os, J.bare, J.base, J.hok, rv, q⟩
  apply wpAny_mono (ht.run [] s1 _ H _ inv0 start)
  · rintro (_ | _ | _ | u) s2 hs
    · obtain ⟨τ, H1, J, q⟩ := hs
      exact done (v := V.non) (u := Value.none) J rfl q
    · obtain ⟨_, _, _, q⟩ := hs
      exact q.elim
    · obtain ⟨_, _, _, q⟩ := hs
      exact q.elim
    · obtain ⟨v, τ, H1, J, rv, q⟩ := hs
      exact done J rv q
  · intro e s2 hs
    exact hs
end
section
variable {CX : CXT} {X : Cx} {k : Nat} {f : Addr} {fd : FuncData} {ps ks : List Str} {sp : Sp} {E : XK} {x : Str} {p pos : Pos} {e : Expr} {es : List Expr} {kws : List Keyword} {ta tk : TA} {g : List Value → List Value → List Value} {gV : List V → List V → List V}
theorem runG (F : FnG X.prog X.w X.K X.mg X.base CX k f fd ps sp) (qt : quietA X.A) (room : Room k X.A) (pass : Passes CX X E) {pins : List (Addr × Obj)} {σ : L2.St} {H : Hp} {s : Shared} {Q : VK} {bp : List Value} {bk : List (Str × Value)} {us : List Value} {vs : List V}
    (I : Inv X pins σ H s) (binds : BindsTo s fd ⟨bp, bk⟩ (ps.zip us)) (rel : Vals vs us) (want : sp vs H Q E) : wpAny (model X.prog X.w) X.A (call (.ref f) bp bk) (EP X pins σ Q) X.xe s := by
  apply wpAny_call
  apply codeAny_mono (F.run X.A X.stack s H ⟨bp, bk⟩ us vs Q E qt room I.env0 binds rel want)
  rintro (e | _ | _ | _ | u) s2 hs
  · exact pass pins σ H s e s2 I hs
  · exact hs.elim
  · exact hs.elim
  · exact hs.elim
  · exact I.after hs
/-- f(e, ..) -/
theorem pe_callG (F : FnG X.prog X.w X.K X.mg X.base CX k f fd ps sp) (qt : quietA X.A) (room : Room k X.A) (glo : Gl X x) (at_ : X.mg x = some (.ref f)) (kp : PySem.W.keepIn X.K (.ref f) = true) (bd : Binds X.K fd ps []) (pass : Passes CX X E)
    (ha : PA X (e :: es) ta) (nd : (x == ("__debug__" : Str)) = false) (st : starEach (e :: es) X.env = (false, eval e X.env) :: starEach es X.env) (pl : (backTo pos (starEach es X.env)).any (·.1) = false) :
    PE X (.Call (.Name x p) (e :: es) [] pos) (tCall sp [] E ta) := ⟨fun pins s σ H Q I want => by
  apply wpAny_Call_Name_kw (ld_glob I glo at_ ?_ nd)
  refine PySem.W.callWith_K (h₀ := X.base) I.ok.mod.kin kp ?_ st pl
  refine thn (ha.run pos pins s σ H _ I want) ?_
  rintro us s1 ⟨vs, H1, I1, rel, q⟩
  refine ⟨I1.kIn, ?_⟩
  have ln : us.length = ps.length := by rw [← rel.length, ← F.len _ _ _ _ q, List.append_nil]
  have b := bd s1 us I1.kIn (by rw [List.append_nil]; exact ln)
  rw [List.append_nil] at b
  rw [List.append_nil] at q
  exact runG F qt room pass I1 b rel q⟩
/-- f() -/
theorem pe_callG0 (F : FnG X.prog X.w X.K X.mg X.base CX k f fd ps sp) (qt : quietA X.A) (room : Room k X.A) (glo : Gl X x) (at_ : X.mg x = some (.ref f)) (kp : PySem.W.keepIn X.K (.ref f) = true) (bd : Binds X.K fd ps []) (pass : Passes CX X E)
    (nd : (x == ("__debug__" : Str)) = false) : PE X (.Call (.Name x p) [] [] pos) (tCall sp [] E tNil) := ⟨fun pins s σ H Q I want => by
  apply wpAny_Call_Name_kw (ld_glob I glo at_ ?_ nd)
  have q : sp ([] ++ []) H Q E := want
  have ln : ([] : List Value).length = ps.length := by rw [← F.len _ _ _ _ q]; rfl
  have b := bd s [] I.kIn (by rw [List.append_nil]; exact ln)
  rw [List.append_nil] at b
  exact PySem.W.callWith_K0 I.kIn kp (runG F qt room pass I b .nil q)⟩
/-- f(k = v, ..) -/
theorem pe_callGK (F : FnG X.prog X.w X.K X.mg X.base CX k f fd ps sp) (qt : quietA X.A) (room : Room k X.A) (glo : Gl X x) (at_ : X.mg x = some (.ref f)) (kp : PySem.W.keepIn X.K (.ref f) = true) (bd : KBinds X.K fd ps ks g gV) (pass : Passes CX X E)
    (hk : PK X kws tk) (all : (backToKw pos (keywordEach kws X.env)).all (·.1.isSome) = true) (names : (backToKw pos (keywordEach kws X.env)).filterMap (·.1) = ks) (nd : (x == ("__debug__" : Str)) = false)
    (pl : ((backTo pos (starEach [] X.env)).any (·.1) || (backToKw pos (keywordEach kws X.env)).any (·.1.isNone)) = false) : PE X (.Call (.Name x p) [] kws pos) (tCallK sp gV E tNil tk) := ⟨fun pins s σ H Q I want => by
  apply wpAny_Call_Name_kw (ld_glob I glo at_ ?_ nd)
  refine PySem.W.callWith_KW0 (h₀ := X.base) I.ok.mod.kin kp all (thn (hk.run pos pins s σ H _ I want) ?_) pl
  rintro ws s2 ⟨zs, H2, I2, rel, q⟩
  refine ⟨I2.kIn, ?_⟩
  rw [names]
  have r2 := bd.rel (us := []) (vs := []) .nil rel
  exact runG F qt room pass I2 (bd.to s2 [] ws I2.kIn (by rw [← r2.length]; exact F.len _ _ _ _ q)) r2 q⟩
end
section
variable {P : Program} {w : World} {K : PySem.W.Frag} {mg mb : Str → Option Value} {k : Nat} {fa a : Addr} {fd : FuncData} {x : Str} {sp : Sp} {s₁ : Shared} {vs : List Value} {ns : List Int} {CX : CXT}
/-- the law's own call, from a heap of which nothing but the script is in hand -/
theorem law_callG (inK : K.In s₁.heap) (glob : s₁.heap.Ns mainGlobals mg) (blt : s₁.heap.Ns builtinsNs mb) (bltIs : ∀ x : Str, x ≠ "__name__" → mb x = bootBuiltins x) (noLim : s₁.heap.NoLimit) (noGen : s₁.gens = #[])
    (ha : s₁.heap.get? a = some { cls := .type "list", data := .seq vs.toArray }) (isInts : IntsAre vs ns) (short : ns.length ≤ sizeLine) (room : Room k callerA)
    (F : ∀ base : Heap, K.In base → base.Ns mainGlobals mg → FnG P w K mg base CX k fa fd [x] sp) (binds : ∀ (s : Shared) (u : Value), BindsTo s fd ⟨[u], []⟩ [(x, u)])
    (want : ∀ H : Hp, Only H → SqL K H a (ns.map V.int) → sp [.ref a] H (fun v _ => v = .bl true) fun _ _ _ => False) (hCX : ∀ H e s', CX [] H s₁ (fun _ _ _ => False) e s' → False) :
    codeAny (model P w) callerA (.call (.ref fa) ⟨[.ref a], []⟩) (fun r s' => r = .ok (.ret (.bool true)) ∧ OldK s₁.heap s'.heap ∧ s'.os = s₁.os ∧ AllBare s'.gens) s₁ := by
  have rv := vals_ints isInts
  have noEnv : ∀ b : Addr, ¬ b ∈ ([] : List Addr) := fun b z => nomatch z
  have main : ∀ H : Hp, Only H → SqL K H a (ns.map V.int) → HOk P w H s₁.heap → (∀ b u, H b = some u → b = a ∧ K.lookup a = none) → codeAny (model P w) callerA (.call (.ref fa) ⟨[.ref a], []⟩) (fun r s' => r = .ok (.ret (.bool true)) ∧ OldK s₁.heap s'.heap ∧ s'.os = s₁.os ∧ AllBare s'.gens) s₁ := by
    intro H only seq ok just
    have out : ∀ {b : Addr} {o : Obj}, s₁.heap.get? b = some o → H b = none → (hidT s₁.heap H).get? b = some o := fun e n => hidT_get e n
    have dictFree : ∀ {b : Addr} {o : Obj} {es : Array DictEntry} {ep : Nat}, s₁.heap.get? b = some o → o.data = .dict es ep → H b = none := by
      intro b o es ep e d
      cases q : H b with
      | none => rfl
      | some u =>
        obtain ⟨rfl, _⟩ := just b u q
        rw [ha] at e
        obtain rfl := Option.some.inj e
        exact absurd (show Data.seq vs.toArray _ = Data.dict es ep from d) (fun z => nomatch z)
    have nsOut : ∀ {b : Addr} {m : Str → Option Value}, s₁.heap.Ns b m → (hidT s₁.heap H).Ns b m := by
      rintro b m ⟨o, es, ep, e, d, r⟩
      exact ⟨o, es, ep, out e (dictFree e d), d, r⟩
    have inKb : K.In (hidT s₁.heap H) := by
      intro b o e
      apply out (inK b o e)
      cases q : H b with
      | none => rfl
      | some u =>
        obtain ⟨rfl, z⟩ := just b u q
        rw [z] at e
        exact nomatch e
    obtain ⟨mc, h1, h2⟩ := noLim
    have mod : Mod K mg (hidT s₁.heap H) := ⟨inKb, nsOut glob, ⟨mb, nsOut blt, bltIs⟩, mc, nsOut h1, h2⟩
    have e0 : Env0 P w K mg (hidT s₁.heap H) callerA [] s₁ H := ⟨rfl, mod, fun b o e => of_hidT e, Nat.le_of_eq (hidT_size _ _), trivial, fun b z => absurd z (noEnv b), ok, .of_eq noGen⟩
    have ran := (F _ inKb (nsOut glob)).run callerA [] s₁ H ⟨[.ref a], []⟩ [.ref a] [.ref a] _ _ rfl room e0 (binds s₁ (.ref a)) (.cons rfl .nil) (want H only seq)
    apply codeAny_mono ran
    rintro (e | _ | _ | _ | u) s2 hs
    · exact (hCX H e s2 hs).elim
    · exact hs.elim
    · exact hs.elim
    · exact hs.elim
    · obtain ⟨v, H2, os, bare, un, ok2, r, hv⟩ := hs
      obtain rfl : v = .bl true := hv
      obtain rfl : u = Value.bool true := r
      refine ⟨rfl, OldK.of_keep ?_, os, bare⟩
      intro b o e
      cases q : H b with
      | none => exact un.keep b o e q (noEnv b) (noEnv b)
      | some u =>
        rcases only b with z | ⟨ob, xs, z⟩
        · rw [q] at z; exact nomatch z
        · obtain ⟨e1, _⟩ := ok b _ z
          obtain ⟨e2, _⟩ := ok2 b _ (un.frzs b ob _ z)
          rw [e] at e1
          obtain rfl := Option.some.inj e1
          exact e2
  cases hk : K.lookup a with
  | some o =>
    have e := inK a o hk
    rw [ha] at e
    obtain rfl := Option.some.inj e
    have none' : ∀ b u, (fun _ : Addr => (none : Option HO)) b = some u → b = a ∧ K.lookup a = none := fun b u z => nomatch z
    exact main (fun _ => none) (fun _ => .inl rfl) (.inr ⟨_, vs.toArray, _, hk, rfl, rfl, rfl, by rw [List.size_toArray, isInts.length]; exact short, by simpa using rv⟩) (fun b u z => absurd z (fun z => nomatch z)) none'
  | none =>
    let fz : HO := .frz { cls := .type "list", data := .seq vs.toArray } (.lst (ns.map V.int))
    have at1 : ∀ b, (if b = a then some fz else none) = none ∨ b = a := fun b => by
      by_cases hb : b = a
      · exact .inr hb
      · exact .inl (if_neg hb)
    refine main (fun b => if b = a then some fz else none) (fun b => ?_) (.inl (.inr ⟨_, if_pos rfl⟩)) (fun b u z => ?_) (fun b u z => ?_)
    · rcases at1 b with h | rfl
      · exact .inl h
      · exact .inr ⟨_, _, if_pos rfl⟩
    · rcases at1 b with h | rfl
      · exact absurd (h.symm.trans z) (fun z => nomatch z)
      · obtain rfl := Option.some.inj ((if_pos rfl).symm.trans z)
        exact ⟨ha, by rw [List.length_map]; exact short, vs, _, rv, ha⟩
    · rcases at1 b with h | rfl
      · exact absurd (h.symm.trans z) (fun z => nomatch z)
      · exact ⟨rfl, hk⟩
end
/-- a law's end -/
theorem walkG {l : PySem.W.OpenLaw} {n k : Nat} {q : Program} {loose : List Str} {XP : (Str → Option Value) → Heap → Prop} {YP : World → Heap → Prop} {d : DefRec} {CX : CXT} {x : Str}
    (most : l.most = some n) (small : n ≤ sizeLine) (plain : d.params.defaults = []) (room : Room k callerA)
    (F : ∀ (w : World) (mg : Str → Option Value) (fa : Addr) (h : Heap), YP w h → h.Ns mainGlobals mg → mg d.name = some (.ref fa) → ∃ (K : PySem.W.Frag) (fd : FuncData) (sp : Sp), K.In h ∧ (∀ (s : Shared) (u : Value), BindsTo s fd ⟨[u], []⟩ [(x, u)]) ∧
      (∀ (H : Hp) (a : Addr) (ns : List Int), ns.length ≤ n → Only H → SqL K H a (ns.map V.int) → sp [.ref a] H (fun v _ => v = .bl true) fun _ _ _ => False) ∧ ∀ base : Heap, K.In base → base.Ns mainGlobals mg → FnG l.prog w K mg base CX k fa fd [x] sp)
    (hCX : ∀ (H : Hp) (s : Shared) (e : Value) (s' : Shared), CX [] H s (fun _ _ _ => False) e s' → False) : PySem.W.WalkO q loose XP YP l.row.toRowW d [] (fun f vs => PySem.call f vs) := by
  apply Att.attach_call most plain
  intro w s₀ s₁ mg mb fa o pm cd doc a vs ns G Y ho hd hcd hmg hobj hints hlen hg
  obtain ⟨K, fd, sp, inK, binds, want, run⟩ := F w mg fa _ Y G.T.g hmg
  exact law_callG inK G.T.g G.T.b G.T.builtins G.T.nolimit hg hobj hints (Nat.le_trans hlen small) room run binds (fun H only seq => want H a ns hlen only seq) fun H e s' => hCX H s₁ e s'
end OE

/-! OeR: repr of lists and tuples; list(range(..)). -/
namespace OE
open PySem PySem.Spec PyProof.Rows L2
theorem noDict : ∀ (d : D), (toPy d).hasDict = false
  | .hole => rfl | .non => rfl | .bl _ => rfl | .int _ => rfl | .str _ => rfl | .scr _ => rfl
  | .tup xs => by simp only [toPy, PyData.hasDict]; exact noDictL xs
  | .lst _ xs => by simp only [toPy, PyData.hasDict]; exact noDictL xs
where noDictL : ∀ (ds : List D), PyData.hasDictAll (toPy.toPyL ds) = false
  | [] => rfl
  | d :: ds => by simp only [toPy.toPyL, PyData.hasDictAll, Bool.or_eq_false_iff]; exact ⟨noDict d, noDictL ds⟩
section
variable {X : Cx}
theorem call_reprD (qt : quietA X.A) (hu : X.A.units + 64 < cLine) : CallR X (.builtin "repr") (rDs X.K bRepr) := by
  intro pins s σ H xs us Q I rx h
  obtain ⟨F, ds, O, d, st, e, post⟩ := h
  have r := st.reps
  unfold bRepr at e
  split at e
  · rename_i d0
    unfold repD at e
    split at e
    · rename_i hc
      rw [Bool.and_eq_true, Bool.and_eq_true, Bool.and_eq_true, Bool.and_eq_true, chk_iff, chk_iff] at hc
      obtain ⟨⟨⟨⟨h1, h2⟩, h3⟩, h4⟩, h5⟩ := hc
      obtain rfl := Option.some.inj e
      obtain ⟨v, rfl, r1⟩ := RepL.one r
      obtain ⟨u, rfl, ru⟩ := vals1 rx
      have isRef : ∃ a, v = .ref a := by
        cases d0 with
        | tup ds => obtain ⟨a, _, rfl, _⟩ := Rep.tupE r1; exact ⟨a, rfl⟩
        | lst o ds => obtain ⟨a, _, _, rfl, _⟩ := Rep.seq r1; exact ⟨a, rfl⟩
        | _ => simp [isSeqD] at h3
      obtain ⟨a, rfl⟩ := isRef
      obtain rfl : u = Value.ref a := ru
      obtain ⟨as, rd⟩ := Dp.reads I _ _ _ (Rep.dp d0 r1 h1) (show RelV (.ref a) (Value.ref a) from rfl)
      have hd := within_depth 60 d0 h2
      have nd := noDict d0
      refine repr_of_reads' rd h4 (fun z => by rw [nd] at z; cases z) qt (by omega) (fun b o e => e) (fun h' u tk hk => ?_) h5
      obtain ⟨ex, st'⟩ := st.flat (d := .str (toPy d0).shown) (v := .str (toPy d0).shown) (fun A => by simp [Rep])
      exact ⟨.str (toPy d0).shown, H, I.kept hk, ⟨u, rfl⟩, post _ _ _ ex st'⟩
    · cases e
  · cases e
end
section
variable {X : Cx} {Γ : Fns} {ios : List Nat} {y z : Expr} {ea eb : E} {p1 p2 q1 q2 pos : Pos}
theorem rgV_eq (m n : Int) : rgV m n = ((List.range (n - m).toNat).map fun i => (m + (i : Nat) : Int)).map V.int := by
  rw [List.map_map]; rfl
theorem rngD_eq (m n : Int) : rngD m n = ((List.range (n - m).toNat).map fun i => (m + (i : Nat) : Int)).map D.int := by
  rw [List.map_map]; rfl
theorem rngs_ok {m n : Int} {xs : List D} (h : rngs m n = some xs) : RgOk m n ∧ (n - m).toNat ≤ sizeLine ∧ xs = rngD m n := by
  unfold rngs at h
  split at h
  · rename_i hc
    unfold rngOk small at hc
    rw [Bool.and_eq_true, Bool.and_eq_true, Bool.and_eq_true, Bool.and_eq_true, chk_iff, chk_iff, chk_iff, chk_iff, chk_iff] at hc
    obtain ⟨⟨⟨h1, h2⟩, h3, h4⟩, h5⟩ := hc
    have h6 : (n - m).toNat ≤ sizeLine := h5
    refine ⟨⟨h1, h2, h3, h4, ?_⟩, h6, (Option.some.inj h).symm⟩
    rw [sizeLine_eq] at h6; omega
  · cases h
theorem lay_rng {F : Addr → Prop} {H : Hp} {env : List D} {σ : L2.St} {O : List Addr} {m n : Int} {Q : VK} (st : St X.K F H env σ O) (hl : (n - m).toNat ≤ sizeLine)
    (post : ∀ v H' O', Ext O H O' H' → St X.K F H' (.lst true (rngD m n) :: env) (some v :: σ) O' → Q v H') : ∀ q, H q = none → Q (.ref q) (upd H q (.lst (rgV m n))) := by
  intro q hq
  obtain ⟨OP, OR, rfl, st2, back⟩ := St.head (P := []) (pv := []) (R := env) (rv := σ) st rfl
  have hO : OP = [] := by obtain ⟨_, e⟩ := st2.rep; exact e
  subst hO
  have r : RepL X.K (fun a => (fun x => F x ∨ x ∈ OR) a ∨ a ∈ ([] : List Addr)) H (rngD m n) (rgV m n) [] := by
    rw [rgV_eq, rngD_eq]; exact RepL.ofInts _
  obtain ⟨ex3, st3⟩ := st2.mkL (p := q) r List.nodup_nil (fun _ h => h) (by rw [rngD, List.length_map, List.length_range]; exact hl) hq
  obtain ⟨ex4, st4⟩ := back _ _ _ _ ex3 st3
  exact post _ _ _ ex4 st4
theorem pe_lrg1D (hc : X.calm = true) (hr : X.mg "range" = none) (hlm : X.mg "list" = none) (gl : Gl X "list") (gr : Gl X "range") (ha : PE X y (tE X.K (ev Γ ios ea))) (hp : plainX y = true) :
    PE X (.Call (.Name "list" p1) [.Call (.Name "range" p2) [y] [] q1] [] pos) (tE X.K (ev Γ ios (.lrg1 ea))) := by
  refine (pe_listRg hc gl hlm (prg_1 gr hr ha (star_plain hp _ _))).imp fun σ H Q h => ?_
  obtain ⟨F, env, O, d, env', st, e, post⟩ := h
  simp only [ev] at e
  obtain ⟨⟨a, env1⟩, e1, e⟩ := Option.bind_eq_some_iff.mp e
  split at e
  · rename_i n hn
    simp only at hn
    subst hn
    obtain ⟨xs, e2, e3⟩ := Option.map_eq_some_iff.mp e
    cases e3
    obtain ⟨ok, hl, rfl⟩ := rngs_ok e2
    refine ⟨F, env, O, _, env1, st, e1, fun v H1 O1 ex1 st1 => ?_⟩
    obtain ⟨st2, r⟩ := st1.flatTop rfl
    obtain ⟨rfl, _⟩ := Rep.intE r
    exact ⟨n, rfl, ok, lay_rng st2 hl fun v H2 O2 ex2 st2 => post v H2 O2 (ex1.trans ex2) st2⟩
  · cases e
theorem pe_lrg2D (hc : X.calm = true) (hr : X.mg "range" = none) (hlm : X.mg "list" = none) (gl : Gl X "list") (gr : Gl X "range") (ha : PE X y (tE X.K (ev Γ ios ea))) (hp : plainX y = true) (hb : PE X z (tE X.K (ev Γ ios eb))) (hpz : plainX z = true) :
    PE X (.Call (.Name "list" p1) [.Call (.Name "range" p2) [y, z] [] q1] [] pos) (tE X.K (ev Γ ios (.lrg2 ea eb))) := by
  refine (pe_listRg hc gl hlm (prg_2 gr hr ha hb (star_plain hp _ _) (star_plain hpz _ _) (backTo_plain _ _ (by simp [hpz])))).imp fun σ H Q h => ?_
  obtain ⟨F, env, O, d, env', st, e, post⟩ := h
  simp only [ev] at e
  obtain ⟨⟨a, env1⟩, e1, e⟩ := Option.bind_eq_some_iff.mp e
  obtain ⟨⟨b, env2⟩, e1b, e⟩ := Option.bind_eq_some_iff.mp e
  split at e
  · rename_i m n hm hn
    simp only at hm hn
    subst hm hn
    obtain ⟨xs, e2, e3⟩ := Option.map_eq_some_iff.mp e
    cases e3
    obtain ⟨ok, hl, rfl⟩ := rngs_ok e2
    refine ⟨F, env, O, _, env1, st, e1, fun v H1 O1 ex1 st1 => ?_⟩
    obtain ⟨st2, r⟩ := st1.flatTop rfl
    obtain ⟨rfl, _⟩ := Rep.intE r
    refine ⟨F, env1, O1, _, env2, st2, e1b, fun w H2 O2 ex2 st3 => ?_⟩
    obtain ⟨st4, r2⟩ := st3.flatTop rfl
    obtain ⟨rfl, _⟩ := Rep.intE r2
    exact ⟨m, n, rfl, rfl, ok, lay_rng st4 hl fun v H3 O3 ex3 st5 => post v H3 O3 (ex1.trans (ex2.trans ex3)) st5⟩
  · cases e
end
end OE

/-! Oe8: == [], pop, calls of defs. -/
namespace OE
open PySem PySem.Spec PyProof.Rows L2

section
variable {X : Cx} {K : PySem.W.Frag} {Γ : Fns} {ios : List Nat} {a b c x y z : Expr} {pos p1 p2 p3 p apos : Pos} {ea eb ec e : E} {es : Es} {xs rest : List Expr} {k : Nat} {T : List FI} {n : Str}
variable {F : Addr → Prop} {H : Hp} {env : List D} {σ : L2.St} {O : List Addr} {v : V} {d : D}

/-! == of trees that are looked at -/
def rEqB (K : PySem.W.Frag) (neg : Bool) : R2 := fun x y H Q => ∃ A A' d e O O' k, Rep K A H d x O ∧ Rep K A' H e y O' ∧ eqD d e = some k ∧ Q (.bl (k != neg)) H
theorem op_eqB (hu : X.A.units + 64 < cLine) : OpR X (compareOp .Eq) (rEqB X.K false) := by
  intro pins s σ H x y v u Q I rx ry h
  obtain ⟨A, A', a, b, O1, O2, k, ra, rb, e', q⟩ := h
  unfold eqD at e'
  split at e'
  · rename_i hc
    cases e'
    simp only [Bool.and_eq_true, Bool.or_eq_true] at hc
    obtain ⟨⟨h1, h2⟩, h3⟩ := hc
    obtain ⟨as, q1⟩ := Dp.reads I _ x v (Rep.dp a ra h1) rx
    obtain ⟨bs, q2⟩ := Dp.reads I _ y u (Rep.dp b rb h2) ry
    have hm : min (toPy a).depth (toPy b).depth ≤ 60 := by
      rcases h3 with h3 | h3
      · exact Nat.le_trans (Nat.min_le_left _ _) (within_depth _ _ h3)
      · exact Nat.le_trans (Nat.min_le_right _ _) (within_depth _ _ h3)
    refine PySem.SeqAt.compareEq_reads q1 q2 (plain_lay a h1) (plain_lay b h2) (by omega) ⟨.bl _, H, I, rfl, ?_⟩
    simpa using q
  · cases e'
theorem op_neB (hu : X.A.units + 64 < cLine) : OpR X (compareOp .NotEq) (rEqB X.K true) := by
  intro pins s σ H x y v u Q I rx ry h
  obtain ⟨A, A', a, b, O1, O2, k, ra, rb, e', q⟩ := h
  unfold eqD at e'
  split at e'
  · rename_i hc
    cases e'
    simp only [Bool.and_eq_true, Bool.or_eq_true] at hc
    obtain ⟨⟨h1, h2⟩, h3⟩ := hc
    obtain ⟨as, q1⟩ := Dp.reads I _ x v (Rep.dp a ra h1) rx
    obtain ⟨bs, q2⟩ := Dp.reads I _ y u (Rep.dp b rb h2) ry
    have hm : min (toPy a).depth (toPy b).depth ≤ 60 := by
      rcases h3 with h3 | h3
      · exact Nat.le_trans (Nat.min_le_left _ _) (within_depth _ _ h3)
      · exact Nat.le_trans (Nat.min_le_right _ _) (within_depth _ _ h3)
    refine PySem.SeqAt.compareNe_reads q1 q2 (plain_lay a h1) (plain_lay b h2) (by omega) ⟨.bl _, H, I, rfl, ?_⟩
    simpa using q
  · cases e'
theorem tE_emp {i : Nat} {rxs : List Ix} {neg : Bool} {Q : VK} (h : tE K (ev Γ ios (.emp i rxs neg)) σ H Q) : tOp (rEqB K neg) (tPl K i rxs) (tLst tNil) σ H Q := by
  obtain ⟨F, env, O, d, env', st, e, post⟩ := h
  simp only [ev, place] at e
  rw [Option.bind_eq_some_iff] at e; obtain ⟨d1, e1, e⟩ := e
  rw [Option.bind_eq_some_iff] at e1; obtain ⟨root, e0, e1⟩ := e1
  rw [Option.map_eq_some_iff] at e; obtain ⟨k, e2, e⟩ := e
  simp only [Prod.mk.injEq] at e
  obtain ⟨rfl, rfl⟩ := e
  obtain ⟨v0, O0, g1, g2, g3⟩ := st.rep.slot e0
  refine ⟨_, env, O, _, root, v0, O0, d1, st.rep, g1, g2, e1, fun v Od r sb => ⟨Nat.zero_le _, fun p hp => ?_⟩⟩
  have hpO : p ∉ O := fun z => by obtain ⟨xs, e⟩ := st.own p z; rw [hp] at e; cases e
  have r2 : Rep K (fun a => F a ∨ a ∈ O) (upd H p (.lst [])) d1 v Od := r.move d1 (fun a o e _ => by rw [upd_ne (ne_of_none e hp)]; exact e) fun a hn _ => hn
  have r3 : Rep K (fun _ => False) (upd H p (.lst [])) (.lst true []) (.ref p) [p] := by
    simp only [Rep, Rep.RepL]
    exact ⟨p, [], [], rfl, rfl, upd_same, Nat.zero_le _, rfl, rfl⟩
  have st2 : St K F (upd H p (.lst [])) env σ O := by
    refine ⟨st.nd, st.nf, fun a ha => ?_, st.rep.move (fun a o e _ => by rw [upd_ne (ne_of_none e hp)]; exact e) fun a hn _ => hn⟩
    by_cases e : a = p
    · subst e; rw [upd_same]; simp
    · rw [upd_ne e]; exact st.fh a ha
  exact ⟨_, _, _, _, _, _, k, r2, r3, e2, post _ _ O (Ext.newT hp) st2.pushBl⟩
theorem pe_empD {i : Nat} {rxs : List Ix} (hu : X.A.units + 64 < cLine) (h : plB X.N X.env.scope i rxs x = true) :
    PE X (.Compare x [.Eq] [.List [] p1] pos) (tE X.K (ev Γ ios (.emp i rxs false))) :=
  (pe_cmpR (op_eqB hu) (pe_plB h).1 (pe_lst pa_nil) (by rfl)).imp fun σ H Q q => tE_emp q
theorem pe_empD' {i : Nat} {rxs : List Ix} (hu : X.A.units + 64 < cLine) (h : plB X.N X.env.scope i rxs x = true) :
    PE X (.Compare x [.NotEq] [.List [] p1] pos) (tE X.K (ev Γ ios (.emp i rxs true))) :=
  (pe_cmpR (op_neB hu) (pe_plB h).1 (pe_lst pa_nil) (by rfl)).imp fun σ H Q q => tE_emp q
theorem pt_empD {i : Nat} {rxs : List Ix} (hu : X.A.units + 64 < cLine) (h : plB X.N X.env.scope i rxs x = true) :
    PT X (.Compare x [.Eq] [.List [] p1] pos) (tT X.K (ev Γ ios (.emp i rxs false))) :=
  (pt_cmpR (op_eqB hu) (pe_plB h).1 (pe_lst pa_nil) (by rfl)).imp fun σ H Q q => tE_emp (tE_tT q)
theorem pt_empD' {i : Nat} {rxs : List Ix} (hu : X.A.units + 64 < cLine) (h : plB X.N X.env.scope i rxs x = true) :
    PT X (.Compare x [.NotEq] [.List [] p1] pos) (tT X.K (ev Γ ios (.emp i rxs true))) :=
  (pt_cmpR (op_neB hu) (pe_plB h).1 (pe_lst pa_nil) (by rfl)).imp fun σ H Q q => tE_emp (tE_tT q)

/-! a slot filled anew -/
theorem St.lay' {i : Nat} (st : St K F H (d :: env) (some v :: σ) O) (hi : σ[i]? = some (some v)) (hl : i < env.length) :
    ∃ O', (∀ a ∈ O', a ∈ O) ∧ St K F H (env.set i d) σ O' := by
  obtain ⟨nd, nf, fh, ov, σ', O1, O2, e1, rfl, r1, r2⟩ := st
  obtain ⟨rfl, rfl⟩ : some v = ov ∧ σ = σ' := by simpa using e1
  obtain ⟨d0, hd0⟩ : ∃ d0, env[i]? = some d0 := ⟨env[i], List.getElem?_eq_getElem hl⟩
  obtain ⟨l, rr, sl, sr, ov, Ol, O3, Or, rfl, hl', rfl, hsl, rfl, q1, q2, q3⟩ := r2.at hd0
  have e2 : ov = some v := by rw [← hsl] at hi; simpa using hi
  subst e2
  have sub : ∀ a ∈ Ol ++ (O1 ++ Or), a ∈ O1 ++ (Ol ++ (O3 ++ Or)) := fun a ha => by
    simp only [List.mem_append] at ha ⊢
    rcases ha with h | h | h
    · exact .inr (.inl h)
    · exact .inl h
    · exact .inr (.inr (.inr h))
  have nd2 : (Ol ++ (O1 ++ Or)).Nodup := by
    have pm : (O1 ++ (Ol ++ (O3 ++ Or))).Perm (O3 ++ (Ol ++ (O1 ++ Or))) := by
      have a1 : (Ol ++ (O3 ++ Or)).Perm (O3 ++ (Ol ++ Or)) := by
        rw [← List.append_assoc, ← List.append_assoc]; exact List.Perm.append_right _ List.perm_append_comm
      have a2 : (O1 ++ (O3 ++ (Ol ++ Or))).Perm (O3 ++ (O1 ++ (Ol ++ Or))) := by
        rw [← List.append_assoc O1, ← List.append_assoc O3]; exact List.Perm.append_right _ List.perm_append_comm
      have a3 : (O1 ++ (Ol ++ Or)).Perm (Ol ++ (O1 ++ Or)) := by
        rw [← List.append_assoc, ← List.append_assoc]; exact List.Perm.append_right _ List.perm_append_comm
      exact (List.Perm.append_left _ a1).trans (a2.trans (List.Perm.append_left _ a3))
    exact (List.nodup_append.mp (pm.nodup_iff.mp nd)).2.1
  have e : (l ++ d0 :: rr).set i d = l ++ d :: rr := by
    rw [← hl', List.set_append_right _ _ (Nat.le_refl _)]; simp
  rw [e]
  refine ⟨Ol ++ (O1 ++ Or), sub, nd2, fun a ha => nf a (sub a ha), fh, ?_⟩
  have mv : ∀ a, ¬ (F a ∨ a ∈ O1 ++ (Ol ++ (O3 ++ Or))) → H a ≠ none → ¬ (F a ∨ a ∈ Ol ++ (O1 ++ Or)) := fun a hn _ z => hn (z.imp_right (sub a))
  exact (q1.move (fun _ _ e _ => e) mv).append ⟨some v, sr, O1, Or, rfl, rfl, r1.move (fun _ _ e _ => e) mv, q3.move (fun _ _ e _ => e) mv⟩

/-! x.pop(), x.pop(k) -/
theorem RepL.dropLast {A : Addr → Prop} : ∀ {ds : List D} {vs : List V} {O : List Addr} {d : D}, RepL K A H ds vs O → ds.getLast? = some d →
    ∃ v O1 O2, vs[vs.length - 1]? = some v ∧ O = O1 ++ O2 ∧ Rep K A H d v O2 ∧ RepL K A H ds.dropLast vs.dropLast O1
  | [], vs, O, d, r, h => by simp at h
  | [e], vs, O, d, r, h => by
    obtain ⟨v, rfl, r1⟩ := RepL.one r
    simp only [List.getLast?_singleton, Option.some.injEq] at h
    subst h
    exact ⟨v, [], O, rfl, rfl, r1, by simp [RepL, Rep.RepL]⟩
  | e :: f :: ds, vs, O, d, r, h => by
    simp only [RepL, Rep.RepL] at r
    obtain ⟨v, vs', O1, O2, rfl, rfl, r1, r2⟩ := r
    have r2' : RepL K A H (f :: ds) vs' O2 := by simp only [RepL, Rep.RepL]; exact r2
    rw [List.getLast?_cons_cons] at h
    obtain ⟨w, O3, O4, h1, rfl, h2, h3⟩ := RepL.dropLast r2' h
    have hl := RepL.len r2'
    have hne : vs' ≠ [] := by intro z; subst z; simp at hl
    refine ⟨w, O1 ++ O3, O4, ?_, by rw [List.append_assoc], h2, ?_⟩
    · rw [List.length_cons]
      have : vs'.length + 1 - 1 = (vs'.length - 1) + 1 := by
        have : 0 < vs'.length := List.length_pos_iff.mpr hne
        omega
      rw [this, List.getElem?_cons_succ]; exact h1
    · rw [List.dropLast_cons_of_ne_nil (by simp), List.dropLast_cons_of_ne_nil hne]
      simp only [RepL, Rep.RepL]
      exact ⟨v, _, O1, O3, rfl, rfl, r1, h3⟩
theorem RepL.erase {A : Addr → Prop} : ∀ {ds : List D} {vs : List V} {O : List Addr} {j : Nat} {d : D}, RepL K A H ds vs O → ds[j]? = some d →
    ∃ v O1 O2, vs[j]? = some v ∧ (O2 ++ O1).Perm O ∧ Rep K A H d v O2 ∧ RepL K A H (ds.eraseIdx j) (vs.eraseIdx j) O1
  | [], vs, O, j, d, r, h => by simp at h
  | e :: ds, vs, O, 0, d, r, h => by
    simp only [RepL, Rep.RepL] at r
    obtain ⟨v, vs', O1, O2, rfl, rfl, r1, r2⟩ := r
    simp only [List.getElem?_cons_zero, Option.some.injEq] at h
    subst h
    exact ⟨v, O2, O1, rfl, List.Perm.refl _, r1, r2⟩
  | e :: ds, vs, O, j + 1, d, r, h => by
    simp only [RepL, Rep.RepL] at r
    obtain ⟨v, vs', O1, O2, rfl, rfl, r1, r2⟩ := r
    simp only [List.getElem?_cons_succ] at h
    obtain ⟨w, O3, O4, h1, pm, h2, h3⟩ := RepL.erase r2 h
    refine ⟨w, O1 ++ O3, O4, by simpa using h1, ?_, h2, ?_⟩
    · have a1 : (O4 ++ (O1 ++ O3)).Perm (O1 ++ (O4 ++ O3)) := by
        rw [← List.append_assoc, ← List.append_assoc]; exact List.Perm.append_right _ List.perm_append_comm
      exact a1.trans (List.Perm.append_left _ pm)
    · simp only [RepL, List.eraseIdx_cons_succ, Rep.RepL]
      exact ⟨v, _, O1, O3, rfl, rfl, r1, h3⟩
/-- an owned list's things are changed in its place: the list below a tree on top -/
theorem St.setTop {ds ds' : List D} {vs vs' : List V} {q : Addr} {vn w : V} {dn dw : D} (st : St K F H (dn :: .lst true ds :: env) (some vn :: some (.ref q) :: σ) O) (hH : H q = some (.lst vs))
    (h : ∀ A On O1, (On ++ O1).Nodup → Rep K A H dn vn On → RepL K A H ds vs O1 → ∃ O2 O3, (∀ a ∈ O3 ++ O2, a ∈ On ++ O1) ∧ (O3 ++ O2).Nodup ∧ RepL K A H ds' vs' O2 ∧ Rep K A H dw w O3) (hl : ds'.length ≤ sizeLine) :
    ∃ O', (∀ a ∈ O', a ∈ O) ∧ Ext O H O' (upd H q (.lst vs')) ∧ St K F (upd H q (.lst vs')) (dw :: .lst true ds' :: env) (some w :: some (.ref q) :: σ) O' := by
  obtain ⟨nd, nf, fh, ov0, σ0, On, Or, e0, rfl, r0, ov, σ', O1, O2, e1, rfl, r1, r2⟩ := st
  obtain ⟨rfl, rfl⟩ : some vn = ov0 ∧ some (V.ref q) :: σ = σ0 := by simpa using e0
  obtain ⟨rfl, rfl⟩ : some (V.ref q) = ov ∧ σ = σ' := by simpa using e1
  obtain ⟨u, e2, r1⟩ := r1.val (by simp)
  cases e2
  simp only [Rep] at r1
  obtain ⟨a, vsx, O1', rfl, e3, hq, hll, r1⟩ := r1
  cases e3
  rw [hH] at hq; cases hq
  have r0' : Rep K (fun a => F a ∨ a ∈ On ++ (q :: O1' ++ O2)) H dn vn On := by
    rcases r0 with ⟨rfl, rfl⟩ | ⟨w, e, r⟩
    · simp [Rep]
    · cases e; exact r
  have nd1 := List.nodup_append.mp nd
  have nd2 := List.nodup_append.mp nd1.2.1
  have nd3 := List.nodup_cons.mp nd2.1
  have ndN : (On ++ O1').Nodup := List.nodup_append.mpr ⟨nd1.1, nd3.2, fun a ha b hb e => nd1.2.2 a ha b (List.mem_append_left _ (List.mem_cons_of_mem _ hb)) e⟩
  obtain ⟨O4, O3, sub, nd4, r4, r3⟩ := h _ On O1' ndN r0' r1
  have hqN : q ∉ On ++ O1' := fun z => by
    rcases List.mem_append.mp z with z | z
    · exact nd1.2.2 q z q (by simp) rfl
    · exact nd3.1 z
  have hqn : q ∉ O3 ++ O4 := fun z => hqN (sub q z)
  have hq2 : q ∉ O2 := fun z => nd2.2.2 q List.mem_cons_self q z rfl
  have hsub : ∀ a ∈ O3 ++ (q :: O4 ++ O2), a ∈ On ++ (q :: O1' ++ O2) := fun a z => by
    have hs := sub a
    simp only [List.mem_append, List.mem_cons] at z hs ⊢
    rcases z with z | (z | z) | z
    · rcases hs (.inl z) with y | y
      · exact .inl y
      · exact .inr (.inl (.inr y))
    · exact .inr (.inl (.inl z))
    · rcases hs (.inr z) with y | y
      · exact .inl y
      · exact .inr (.inl (.inr y))
    · exact .inr (.inr z)
  have mv : ∀ {P : List Addr}, q ∉ P → ∀ a o, H a = some o → (a ∈ P ∨ ¬ (F a ∨ a ∈ On ++ (q :: O1' ++ O2)) ∨ (∀ xs, o ≠ .lst xs)) → upd H q (.lst vs') a = some o := by
    intro P hP a o e z
    have : a ≠ q := by
      rintro rfl
      rcases z with z | z | z
      · exact hP z
      · exact z (.inr (by simp))
      · rw [hH] at e; cases e; exact z _ rfl
    rw [upd_ne this]; exact e
  have av : ∀ a, ¬ (F a ∨ a ∈ On ++ (q :: O1' ++ O2)) → H a ≠ none → ¬ (F a ∨ a ∈ O3 ++ (q :: O4 ++ O2)) := fun a hn _ z => hn (z.imp_right (hsub a))
  refine ⟨O3 ++ (q :: O4 ++ O2), hsub, ⟨fun a o e z => ?_, fun a z => .inl (hsub a z)⟩, ?_, fun a ha => nf a (hsub a ha), fun a ha => ?_, ?_⟩
  · have : a ≠ q := by
      rintro rfl
      rcases z with z | z
      · exact z (by simp)
      · rw [hH] at e; cases e; exact z _ rfl
    rw [upd_ne this]; exact e
  · have h4 := List.nodup_append.mp nd4
    have fromN : ∀ a ∈ O3 ++ O4, a ∉ O2 := fun a ha hb => by
      rcases List.mem_append.mp (sub a ha) with z | z
      · exact nd1.2.2 a z a (List.mem_append_right _ hb) rfl
      · exact nd2.2.2 a (List.mem_cons_of_mem _ z) a hb rfl
    refine List.nodup_append.mpr ⟨h4.1, List.nodup_append.mpr ⟨List.nodup_cons.mpr ⟨fun z => hqn (List.mem_append_right _ z), h4.2.1⟩, nd2.2.1, fun a ha b hb e => ?_⟩, fun a ha b hb e => ?_⟩
    · subst e
      rcases List.mem_cons.mp ha with rfl | ha
      · exact hq2 hb
      · exact fromN a (List.mem_append_right _ ha) hb
    · subst e
      rcases List.mem_append.mp hb with hb | hb
      · rcases List.mem_cons.mp hb with rfl | hb
        · exact hqn (List.mem_append_left _ ha)
        · exact h4.2.2 a ha a hb rfl
      · exact fromN a (List.mem_append_left _ ha) hb
  · by_cases e : a = q
    · subst e; rw [upd_same]; simp
    · rw [upd_ne e]; exact fh a ha
  · refine ⟨some w, _, O3, _, rfl, rfl, .inr ⟨w, rfl, r3.move dw (mv fun z => hqn (List.mem_append_left _ z)) av⟩, some (.ref q), _, q :: O4, O2, rfl, rfl, .inr ⟨_, rfl, ?_⟩, r2.move (mv hq2) av⟩
    simp only [Rep]
    refine ⟨q, vs', O4, rfl, rfl, upd_same, hl, RepL.move ds' r4 (mv fun z => hqn (List.mem_append_right _ z)) av⟩
theorem St.at_ref {i : Nat} {ds : List D} {o : Bool} (st : St K F H env σ O) (h : getV env i = some (.lst o ds)) : ∃ q vs, σ[i]? = some (some (.ref q)) ∧ H q = some (.lst vs) ∧ vs.length = ds.length ∧ ds.length ≤ sizeLine := by
  obtain ⟨v, Oi, h1, h2, h3⟩ := st.rep.slot h
  obtain ⟨q, vs, Oj, rfl, hq, hl, r, _⟩ := Rep.seq h2
  exact ⟨q, vs, h1, hq, RepL.len r, hl⟩
/-- an owned list in a slot is changed in its place, a thing goes in (from the top), a thing comes out (to the top) -/
theorem St.setSlot {i : Nat} {ds ds' : List D} {vs vs' : List V} {q : Addr} {vn w : V} {dn dw : D} (st : St K F H (dn :: env) (some vn :: σ) O) (hs : getV env i = some (.lst true ds)) (hi : σ[i]? = some (some (.ref q))) (hH : H q = some (.lst vs))
    (h : ∀ A On O1, (On ++ O1).Nodup → Rep K A H dn vn On → RepL K A H ds vs O1 → ∃ O2 O3, (∀ a ∈ O3 ++ O2, a ∈ On ++ O1) ∧ (O3 ++ O2).Nodup ∧ RepL K A H ds' vs' O2 ∧ Rep K A H dw w O3) (hl : ds'.length ≤ sizeLine) :
    ∃ O', Ext O H O' (upd H q (.lst vs')) ∧ St K F (upd H q (.lst vs')) (dw :: env.set i (.lst true ds')) (some w :: σ) O' := by
  obtain ⟨OP, OR, rfl, st1, back⟩ := St.tail (P := [dn]) (pv := [some vn]) st rfl
  obtain ⟨u, hu, O2, pm, st2⟩ := st1.take hs
  rw [hi] at hu; cases hu
  obtain ⟨ex3, st3⟩ := back _ _ _ H (Ext.refl.perm pm) st2
  obtain ⟨O4, sub4, ex4, st4⟩ := St.setTop (vs' := vs') (w := w) (dw := dw) st3 hH h hl
  obtain ⟨OP5, OR5, rfl, st5, back5⟩ := St.tail (P := [dw]) (pv := [some w]) st4 rfl
  have hlt : i < env.length := (List.getElem?_eq_some_iff.mp (getV_some hs).1).1
  obtain ⟨O6, sub6, st6⟩ := St.lay' st5 hi (by rw [List.length_set]; exact hlt)
  rw [List.set_set] at st6
  obtain ⟨ex7, st7⟩ := back5 _ _ _ _ (Ext.refl.less sub6) st6
  exact ⟨_, ex3.trans (ex4.trans ex7), st7⟩
theorem St.unpush (st : St K F H (.hole :: env) (some v :: σ) O) : St K F H env σ O := (St.flatTop st rfl).1
theorem tE_pop {i : Nat} {Q : VK} {r : V → List V → Hp → VK → Prop} (hr : ∀ x xs H Q, (rPop x xs H Q ∨ rPopAt x xs H Q) → r x xs H Q)
    (h : tE X.K (ev Γ ios (.pop i es)) σ H Q) : tBM X.K "list" r (tVar i) (tA X.K (evs Γ ios es)) σ H Q := by
  obtain ⟨F, env, O, d, env', st, e, post⟩ := h
  simp only [ev] at e
  rw [Option.bind_eq_some_iff] at e; obtain ⟨d0, e0, e⟩ := e
  split at e
  · rename_i ds0
    rw [Option.bind_eq_some_iff] at e; obtain ⟨⟨ks, env1⟩, e1, e⟩ := e
    obtain ⟨q, vs0, hq, hH, _, _⟩ := st.at_ref e0
    refine ⟨.ref q, hq, .inl ⟨rfl, vs0, .inl (.inl hH)⟩, F, env, O, ks, env1, st, e1, fun xs H1 O1 ex1 st1 hlen => hr _ _ _ _ ?_⟩
    simp only at e
    split at e
    · rename_i ds hd
      rw [Option.map_eq_some_iff] at e; obtain ⟨d1, e2, e⟩ := e
      simp only [Prod.mk.injEq] at e
      obtain ⟨rfl, rfl⟩ := e
      have hx : xs = [] := List.eq_nil_of_length_eq_zero hlen.symm
      subst hx
      have st1' : St X.K F H1 env1 σ O1 := st1
      obtain ⟨q2, vs2, g2, g3, g4, g5⟩ := st1'.at_ref hd
      rw [hq] at g2; cases g2
      obtain ⟨w2, Ow, k1, k2, k3⟩ := st1'.rep.slot hd
      obtain ⟨q3, vs3, Oj, e6, hq3, _, r3, _⟩ := Rep.seq k2
      rw [hq] at k1; cases k1
      cases e6
      rw [g3] at hq3; cases hq3
      obtain ⟨x3, O7, O8, g6, _, r5, r6⟩ := RepL.dropLast r3 e2
      refine .inl ⟨q, vs2, x3, rfl, rfl, g3, g6, ?_⟩
      have st2 : St X.K F H1 (.hole :: env1) (some .non :: σ) O1 := st1'.push fun A => by simp [Rep]
      obtain ⟨O9, ex9, st9⟩ := St.setSlot (ds' := ds.dropLast) (vs' := vs2.dropLast) (w := x3) (dw := d1) st2 hd hq g3 (fun A On O1 nd rn r => by
        simp only [Rep] at rn
        subst rn
        obtain ⟨x4, O10, O11, h1, rfl, h2, h3⟩ := RepL.dropLast r e2
        rw [g6] at h1; cases h1
        exact ⟨O10, O11, fun a ha => by simpa [or_comm] using ha, List.perm_append_comm.nodup_iff.mp (by simpa using nd), h3, h2⟩) (by rw [List.length_dropLast]; omega)
      exact post x3 _ O9 (ex1.trans ex9) st9
    · rename_i kk ds hd
      split at e
      · rename_i hsm
        rw [Option.bind_eq_some_iff] at e; obtain ⟨j, ej, e⟩ := e
        rw [Option.map_eq_some_iff] at e; obtain ⟨d1, e2, e⟩ := e
        simp only [Prod.mk.injEq] at e
        obtain ⟨rfl, rfl⟩ := e
        obtain ⟨x0, rfl⟩ : ∃ x0, xs = [x0] := by
          match xs, hlen with
          | [x0], _ => exact ⟨x0, rfl⟩
        obtain ⟨rfl, st1'⟩ := St.intTop (env := env1) (σ := σ) st1
        obtain ⟨q2, vs2, g2, g3, g4, g5⟩ := st1'.at_ref hd
        rw [hq] at g2; cases g2
        obtain ⟨w2, Ow, k1, k2, k3⟩ := st1'.rep.slot hd
        obtain ⟨q3, vs3, Oj, e6, hq3, _, r3, _⟩ := Rep.seq k2
        rw [hq] at k1; cases k1
        cases e6
        rw [g3] at hq3; cases hq3
        obtain ⟨x3, O7, O8, g6, _, r5, r6⟩ := RepL.erase r3 e2
        simp only [small, Bool.and_eq_true, chk_iff] at hsm
        have h9 := (ixN_seq ej).1
        refine .inr ⟨q, vs2, kk, j, x3, rfl, rfl, g3, by omega, by omega, by rw [g4]; exact h9, g6, ?_⟩
        have st2 : St X.K F H1 (.hole :: env1) (some .non :: σ) O1 := st1'.push fun A => by simp [Rep]
        obtain ⟨O9, ex9, st9⟩ := St.setSlot (ds' := ds.eraseIdx j) (vs' := vs2.eraseIdx j) (w := x3) (dw := d1) st2 hd hq g3 (fun A On O1 nd rn r => by
          simp only [Rep] at rn
          subst rn
          obtain ⟨x4, O10, O11, h1, pm, h2, h3⟩ := RepL.erase r e2
          rw [g6] at h1; cases h1
          exact ⟨O10, O11, fun a ha => by simpa using pm.mem_iff.mp ha, pm.nodup_iff.mpr (by simpa using nd), h3, h2⟩) (Nat.le_trans (List.length_eraseIdx_le _ _) g5)
        exact post x3 _ O9 (ex1.trans ex9) st9
      · cases e
    · cases e
  · cases e
theorem pe_popD {i : Nat} {m : Str} {pn : Pos} (hn : nameB X.N X.env.scope i (.Name m pn) = true) (ha : PA X (x :: xs) (tA X.K (evs Γ ios es))) (hp : (x :: xs).all plainX = true) (hl : (apos.endLine == pos.line) = true) (hx : xs = []) :
    PE X (.Call (.Attribute (.Name m pn) "pop" apos) (x :: xs) [] pos) (tE X.K (ev Γ ios (.pop i es))) := by
  subst hx
  simp only [List.all_cons, Bool.and_eq_true] at hp
  refine (pe_bm PySem.F.plainAttrs_list PySem.F.slot_list_pop PySem.F.type_list_pop (MtR.or (show MtR X "list.pop" rPopAt from mt_popAt) (show MtR X "list.pop" rPop from mt_pop)) (pe_nameB hn) ha (by rfl) ?_ hl (star_plain hp.1 _ _) (by rfl)).imp fun σ H Q h => tE_pop (fun x xs H Q z => z.symm) h
  rw [star_plain hp.1]; rfl
theorem pe_popD0 {i : Nat} {m : Str} {pn : Pos} (hn : nameB X.N X.env.scope i (.Name m pn) = true) (hl : (apos.endLine == pos.line) = true) :
    PE X (.Call (.Attribute (.Name m pn) "pop" apos) [] [] pos) (tE X.K (ev Γ ios (.pop i .nil))) := by
  refine (pe_bm0 PySem.F.plainAttrs_list PySem.F.slot_list_pop PySem.F.type_list_pop (MtR.or (show MtR X "list.pop" rPopAt from mt_popAt) (show MtR X "list.pop" rPop from mt_pop)) (pe_nameB hn) (by rfl) hl).imp fun σ H Q h => ?_
  obtain ⟨v, h1, h2, h3⟩ := tE_pop (es := .nil) (r := fun x xs H Q => rPopAt x xs H Q ∨ rPop x xs H Q) (fun x xs H Q z => z.symm) h
  refine ⟨v, h1, h2, ?_⟩
  obtain ⟨F, env, O, ds, env', st, e, post⟩ := h3
  simp only [evs, Option.some.injEq, Prod.mk.injEq] at e
  obtain ⟨rfl, rfl⟩ := e
  exact post [] H O Ext.refl st rfl
end
end OE

/-! OeP: places compared, places put one behind the other: nothing is shared by it. -/
namespace OE
open PySem PySem.Spec PyProof.Rows L2
section
variable {X : Cx} {K : PySem.W.Frag} {Γ : Fns} {ios : List Nat} {x y : Expr} {pos : Pos} {i j : Nat} {xs ys : List Ix} {neg : Bool} {H : Hp} {σ : L2.St} {Q : VK}
theorem tE_eqp (h : tE K (ev Γ ios (.eqp i xs j ys neg)) σ H Q) : tOp (rEqB K neg) (tPl K i xs) (tPl K j ys) σ H Q := by
  obtain ⟨F, env, O, d, env', st, e, post⟩ := h
  simp only [ev, place] at e
  rw [Option.bind_eq_some_iff] at e; obtain ⟨d1, e1, e⟩ := e
  rw [Option.bind_eq_some_iff] at e1; obtain ⟨r1, f1, e1⟩ := e1
  rw [Option.bind_eq_some_iff] at e; obtain ⟨d2, e2, e⟩ := e
  rw [Option.bind_eq_some_iff] at e2; obtain ⟨r2, f2, e2⟩ := e2
  rw [Option.map_eq_some_iff] at e; obtain ⟨k, e3, e⟩ := e
  simp only [Prod.mk.injEq] at e
  obtain ⟨rfl, rfl⟩ := e
  obtain ⟨v1, O1, a1, a2, a3⟩ := st.rep.slot f1
  obtain ⟨v2, O2, b1, b2, b3⟩ := st.rep.slot f2
  refine ⟨_, env, O, _, r1, v1, O1, d1, st.rep, a1, a2, e1, fun v Od q1 s1 => ?_⟩
  exact ⟨_, env, O, _, r2, v2, O2, d2, st.rep, b1, b2, e2, fun w Oe q2 s2 => ⟨_, _, _, _, _, _, k, q1, q2, e3, post _ _ O Ext.refl st.pushBl⟩⟩
theorem pe_eqpD (hu : X.A.units + 64 < cLine) (h : plB X.N X.env.scope i xs x = true) (h2 : plB X.N X.env.scope j ys y = true) : PE X (.Compare x [.Eq] [y] pos) (tE X.K (ev Γ ios (.eqp i xs j ys false))) :=
  (pe_cmpR (op_eqB hu) (pe_plB h).1 (pe_plB h2).1 (marks_plain (pe_plB h2).2 _)).imp fun σ H Q q => tE_eqp q
theorem pe_eqpD' (hu : X.A.units + 64 < cLine) (h : plB X.N X.env.scope i xs x = true) (h2 : plB X.N X.env.scope j ys y = true) : PE X (.Compare x [.NotEq] [y] pos) (tE X.K (ev Γ ios (.eqp i xs j ys true))) :=
  (pe_cmpR (op_neB hu) (pe_plB h).1 (pe_plB h2).1 (marks_plain (pe_plB h2).2 _)).imp fun σ H Q q => tE_eqp q
theorem pt_eqpD (hu : X.A.units + 64 < cLine) (h : plB X.N X.env.scope i xs x = true) (h2 : plB X.N X.env.scope j ys y = true) : PT X (.Compare x [.Eq] [y] pos) (tT X.K (ev Γ ios (.eqp i xs j ys false))) :=
  (pt_cmpR (op_eqB hu) (pe_plB h).1 (pe_plB h2).1 (marks_plain (pe_plB h2).2 _)).imp fun σ H Q q => tE_eqp (tE_tT q)
theorem pt_eqpD' (hu : X.A.units + 64 < cLine) (h : plB X.N X.env.scope i xs x = true) (h2 : plB X.N X.env.scope j ys y = true) : PT X (.Compare x [.NotEq] [y] pos) (tT X.K (ev Γ ios (.eqp i xs j ys true))) :=
  (pt_cmpR (op_neB hu) (pe_plB h).1 (pe_plB h2).1 (marks_plain (pe_plB h2).2 _)).imp fun σ H Q q => tE_eqp (tE_tT q)
theorem tE_catp (h : tE K (ev Γ ios (.catp i xs j ys)) σ H Q) : tOp rCat (tPl K i xs) (tPl K j ys) σ H Q := by
  obtain ⟨F, env, O, d, env', st, e, post⟩ := h
  simp only [ev, place] at e
  rw [Option.bind_eq_some_iff] at e; obtain ⟨d1, e1, e⟩ := e
  rw [Option.bind_eq_some_iff] at e1; obtain ⟨r1, f1, e1⟩ := e1
  rw [Option.bind_eq_some_iff] at e; obtain ⟨d2, e2, e⟩ := e
  rw [Option.bind_eq_some_iff] at e2; obtain ⟨r2, f2, e2⟩ := e2
  rw [Option.map_eq_some_iff] at e; obtain ⟨k, e3, e⟩ := e
  simp only [Prod.mk.injEq] at e
  obtain ⟨rfl, rfl⟩ := e
  obtain ⟨v1, O1, a1, a2, a3⟩ := st.rep.slot f1
  obtain ⟨v2, O2, b1, b2, b3⟩ := st.rep.slot f2
  refine ⟨_, env, O, _, r1, v1, O1, d1, st.rep, a1, a2, e1, fun v Od q1 s1 => ?_⟩
  refine ⟨_, env, O, _, r2, v2, O2, d2, st.rep, b1, b2, e2, fun w Oe q2 s2 => ?_⟩
  unfold catD at e3
  split at e3
  · rename_i o zs o' ws
    split at e3
    · rename_i hc
      rw [Bool.and_eq_true, Bool.and_eq_true, chk_iff] at hc
      obtain ⟨⟨hn1, hn2⟩, hl⟩ := hc
      obtain rfl := Option.some.inj e3
      obtain ⟨a, vs, Oi, rfl, ha, hla, ra, sa⟩ := Rep.seq q1
      obtain ⟨b, us, Oj, rfl, hb, hlb, rb, sb⟩ := Rep.seq q2
      have la := RepL.len ra
      have lb := RepL.len rb
      obtain rfl := Rep.nil.nilL zs ra (by rw [noOwnL_all]; exact hn1)
      obtain rfl := Rep.nil.nilL ws rb (by rw [noOwnL_all]; exact hn2)
      refine ⟨a, b, vs, us, rfl, rfl, ha, hb, by rw [la, lb]; exact hl, fun p hp => ?_⟩
      obtain ⟨OP, OR, rfl, st2, back⟩ := St.head (P := []) (pv := []) (R := env) (rv := σ) st rfl
      have hO : OP = [] := by obtain ⟨_, e⟩ := st2.rep; exact e
      subst hO
      have rr : RepL K (fun a => (fun x => F x ∨ x ∈ OR) a ∨ a ∈ ([] : List Addr)) H (zs ++ ws) (vs ++ us) [] := by
        have := RepL.append (P := []) (Q := []) ra rb
        exact RepL.move _ this (fun _ _ e _ => e) fun a hn _ z => hn (by
          rcases z with z | z
          · exact z.imp id (by simp)
          · cases z)
      obtain ⟨ex3, st3⟩ := st2.mkL (p := p) rr List.nodup_nil (fun _ h => h) (by rw [List.length_append]; exact hl) hp
      obtain ⟨ex4, st4⟩ := back _ _ _ _ ex3 st3
      exact post _ _ _ ex4 st4
    · cases e3
  · cases e3
theorem pe_catpD (h : plB X.N X.env.scope i xs x = true) (h2 : plB X.N X.env.scope j ys y = true) : PE X (.BinOp x .Add y pos) (tE X.K (ev Γ ios (.catp i xs j ys))) :=
  (pe_op op_cat (pe_plB h).1 (pe_plB h2).1).imp fun σ H Q q => tE_catp q
theorem tE_nonp (h : tE K (ev Γ ios (.nonp i xs neg)) σ H Q) : tOp (fun x y H Q => y = .non ∧ Q (.bl (decide (x = .non) != neg)) H) (tPl K i xs) (tC .non) σ H Q := by
  obtain ⟨F, env, O, d, env', st, e, post⟩ := h
  simp only [ev, place] at e
  rw [Option.bind_eq_some_iff] at e; obtain ⟨d1, e1, e⟩ := e
  rw [Option.bind_eq_some_iff] at e1; obtain ⟨r1, f1, e1⟩ := e1
  rw [Option.map_eq_some_iff] at e; obtain ⟨k, e3, e⟩ := e
  simp only [Prod.mk.injEq] at e
  obtain ⟨rfl, rfl⟩ := e
  obtain ⟨v1, O1, a1, a2, a3⟩ := st.rep.slot f1
  refine ⟨_, env, O, _, r1, v1, O1, d1, st.rep, a1, a2, e1, fun v Od q1 s1 => ⟨rfl, ?_⟩⟩
  have hk : decide (v = .non) = k := by
    by_cases hd : d1 = .non
    · subst hd
      obtain ⟨rfl, _⟩ := Rep.nonE q1
      simp [isNon] at e3
      simp [e3]
    · have hh : d1 ≠ .hole := by rintro rfl; simp [isNon] at e3
      rw [Rep.dec_non q1 hh hd]
      cases d1 <;> simp [isNon] at e3 hd hh <;> exact e3.symm
  rw [hk]
  exact post _ _ O Ext.refl st.pushBl
theorem op_isP : OpR X (compareOp .Is) (fun x y H Q => y = .non ∧ Q (.bl (decide (x = .non) != false)) H) := fun pins s σ H x y v u Q I rx ry h => op_isN pins s σ H x y v u Q I rx ry ⟨h.1, by simpa using h.2⟩
theorem op_notP : OpR X (compareOp .IsNot) (fun x y H Q => y = .non ∧ Q (.bl (decide (x = .non) != true)) H) := fun pins s σ H x y v u Q I rx ry h => op_notN pins s σ H x y v u Q I rx ry ⟨h.1, by simpa using h.2⟩
theorem pe_nonpD {j0 : Nat} {c0 : Pos} (h : plB X.N X.env.scope i xs x = true) : PE X (.Compare x [.Is] [.Constant .none j0 c0] pos) (tE X.K (ev Γ ios (.nonp i xs false))) :=
  (pe_cmpR op_isP (pe_plB h).1 pe_non (by rfl)).imp fun σ H Q q => tE_nonp q
theorem pe_nonpD' {j0 : Nat} {c0 : Pos} (h : plB X.N X.env.scope i xs x = true) : PE X (.Compare x [.IsNot] [.Constant .none j0 c0] pos) (tE X.K (ev Γ ios (.nonp i xs true))) :=
  (pe_cmpR op_notP (pe_plB h).1 pe_non (by rfl)).imp fun σ H Q q => tE_nonp q
theorem pt_nonpD {j0 : Nat} {c0 : Pos} (h : plB X.N X.env.scope i xs x = true) : PT X (.Compare x [.Is] [.Constant .none j0 c0] pos) (tT X.K (ev Γ ios (.nonp i xs false))) :=
  (pt_cmpR op_isP (pe_plB h).1 pe_non (by rfl)).imp fun σ H Q q => tE_nonp (tE_tT q)
theorem pt_nonpD' {j0 : Nat} {c0 : Pos} (h : plB X.N X.env.scope i xs x = true) : PT X (.Compare x [.IsNot] [.Constant .none j0 c0] pos) (tT X.K (ev Γ ios (.nonp i xs true))) :=
  (pt_cmpR op_notP (pe_plB h).1 pe_non (by rfl)).imp fun σ H Q q => tE_nonp (tE_tT q)
theorem pe_srtpD {p : Pos} (hm : X.mg "sorted" = none) (hg : glB X.env.scope "sorted" = true) (h : plB X.N X.env.scope i xs x = true) :
    PE X (.Call (.Name "sorted" p) [x] [] pos) (tE X.K (ev Γ ios (.srtp i xs))) := by
  obtain ⟨hx, hp⟩ := pe_plB h
  obtain ⟨h1, h2, h3⟩ := glB_ok hg
  refine (pe_callB (es := []) cr_sortedI h1 hm (by decide +kernel) (pa_cons hx pa_nil (star_plain hp _ _)) h2 h3 (star_plain hp _ _) (by rfl)).imp fun σ H Q q => ?_
  obtain ⟨F, env, O, d, env', st, e, post⟩ := q
  simp only [ev, place, bltD] at e
  rw [Option.bind_eq_some_iff] at e; obtain ⟨d1, e1, e⟩ := e
  rw [Option.bind_eq_some_iff] at e1; obtain ⟨root, e0, e1⟩ := e1
  rw [Option.map_eq_some_iff] at e; obtain ⟨d2, e2, e⟩ := e
  simp only [Prod.mk.injEq] at e
  obtain ⟨rfl, rfl⟩ := e
  obtain ⟨v0, O0, g1, g2, g3⟩ := st.rep.slot e0
  refine ⟨_, env, O, _, root, v0, O0, d1, st.rep, g1, g2, e1, fun v Od r sb => ?_⟩
  unfold bSorted at e2
  split at e2 <;> simp only [reduceCtorEq, Option.map_eq_some_iff] at e2
  rename_i hd
  simp only [List.cons.injEq, and_true] at hd
  subst hd
  obtain ⟨ns, e3, rfl⟩ := e2
  obtain ⟨a, vs, Oi, rfl, ht, hl, r2, sb2⟩ := Rep.seq r
  obtain rfl := allInts_eq e3
  obtain ⟨rfl, rfl⟩ := RepL.ints r2
  refine ⟨a, ns, rfl, .inl (.inl ht), fun ns' q hpm ho hn => ?_⟩
  obtain rfl := sorted_one hpm ho
  obtain ⟨OP, OR, rfl, st2, back⟩ := St.head (P := []) (pv := []) (R := env) (rv := σ) st rfl
  have hO : OP = [] := by obtain ⟨_, e⟩ := st2.rep; exact e
  subst hO
  obtain ⟨ex3, st3⟩ := st2.mkL (p := q) (RepL.ofInts _) List.nodup_nil (fun _ h => h) (by rw [List.length_map, hpm.length_eq]; rw [List.length_map] at hl; exact hl) hn
  obtain ⟨ex4, st4⟩ := back _ _ _ _ ex3 st3
  exact post _ _ _ ex4 st4
def rInB (K : PySem.W.Frag) (neg : Bool) : R2 := fun x y H Q => ∃ A A' d e O O' k, Rep K A H d x O ∧ Rep K A' H e y O' ∧ cmpD .isIn d e = some k ∧ Q (.bl (k != neg)) H
theorem in_partsB {K : PySem.W.Frag} {A A' : Addr → Prop} {H : Hp} {a b : D} {x y : V} {O1 O2 : List Addr} {k : Bool} (ra : Rep K A H a x O1) (rb : Rep K A' H b y O2) (e : cmpD .isIn a b = some k) :
    ∃ (i : Int) (p : Addr) (ns : List Int), x = .int i ∧ y = .ref p ∧ (SqL K H p (ns.map V.int) ∨ SqT K H p (ns.map V.int)) ∧ k = ns.any (· == i) := by
  simp only [cmpD] at e
  split at e
  · rename_i i o xs
    obtain ⟨ns, h1, rfl⟩ := Option.map_eq_some_iff.mp e
    obtain rfl := allInts_eq h1
    obtain ⟨rfl, _⟩ := Rep.intE ra
    obtain ⟨p, vs, Oi, rfl, hp, _, r, _⟩ := Rep.seq rb
    obtain ⟨rfl, _⟩ := RepL.ints r
    exact ⟨i, p, ns, rfl, rfl, .inl (.inl (.inl hp)), rfl⟩
  · rename_i i xs
    obtain ⟨ns, h1, rfl⟩ := Option.map_eq_some_iff.mp e
    obtain rfl := allInts_eq h1
    obtain ⟨rfl, _⟩ := Rep.intE ra
    obtain ⟨p, vs, rfl, hp, _, r⟩ := Rep.tupE rb
    obtain ⟨rfl, _⟩ := RepL.ints r
    exact ⟨i, p, ns, rfl, rfl, .inr hp, rfl⟩
  · cases e
theorem op_inB : OpR X (compareOp .In) (rInB X.K false) := by
  intro pins s σ H x y v u Q I rx ry h
  obtain ⟨A, A', a, b, O1, O2, k, ra, rb, e, q⟩ := h
  obtain ⟨i, p, ns, rfl, rfl, hq, rfl⟩ := in_partsB ra rb e
  exact op_in_seq pins s σ H _ _ v u Q I rx ry ⟨p, ns.map V.int, rfl, hq, rfl, flat_ints ns, by rw [inV_ints]; simpa using q⟩
theorem op_notInB : OpR X (compareOp .NotIn) (rInB X.K true) := by
  intro pins s σ H x y v u Q I rx ry h
  obtain ⟨A, A', a, b, O1, O2, k, ra, rb, e, q⟩ := h
  obtain ⟨i, p, ns, rfl, rfl, hq, rfl⟩ := in_partsB ra rb e
  exact op_notIn_seq pins s σ H _ _ v u Q I rx ry ⟨p, ns.map V.int, rfl, hq, rfl, flat_ints ns, by rw [inV_ints]; simpa using q⟩
theorem tE_inp (h : tE K (ev Γ ios (.inp i xs j ys neg)) σ H Q) : tOp (rInB K neg) (tPl K i xs) (tPl K j ys) σ H Q := by
  obtain ⟨F, env, O, d, env', st, e, post⟩ := h
  simp only [ev, place] at e
  rw [Option.bind_eq_some_iff] at e; obtain ⟨d1, e1, e⟩ := e
  rw [Option.bind_eq_some_iff] at e1; obtain ⟨r1, f1, e1⟩ := e1
  rw [Option.bind_eq_some_iff] at e; obtain ⟨d2, e2, e⟩ := e
  rw [Option.bind_eq_some_iff] at e2; obtain ⟨r2, f2, e2⟩ := e2
  rw [Option.map_eq_some_iff] at e; obtain ⟨k, e3, e⟩ := e
  simp only [Prod.mk.injEq] at e
  obtain ⟨rfl, rfl⟩ := e
  obtain ⟨v1, O1, a1, a2, a3⟩ := st.rep.slot f1
  obtain ⟨v2, O2, b1, b2, b3⟩ := st.rep.slot f2
  refine ⟨_, env, O, _, r1, v1, O1, d1, st.rep, a1, a2, e1, fun v Od q1 s1 => ?_⟩
  exact ⟨_, env, O, _, r2, v2, O2, d2, st.rep, b1, b2, e2, fun w Oe q2 s2 => ⟨_, _, _, _, _, _, k, q1, q2, e3, post _ _ O Ext.refl st.pushBl⟩⟩
theorem pe_inpD (h : plB X.N X.env.scope i xs x = true) (h2 : plB X.N X.env.scope j ys y = true) : PE X (.Compare x [.In] [y] pos) (tE X.K (ev Γ ios (.inp i xs j ys false))) :=
  (pe_cmpR op_inB (pe_plB h).1 (pe_plB h2).1 (marks_plain (pe_plB h2).2 _)).imp fun σ H Q q => tE_inp q
theorem pe_inpD' (h : plB X.N X.env.scope i xs x = true) (h2 : plB X.N X.env.scope j ys y = true) : PE X (.Compare x [.NotIn] [y] pos) (tE X.K (ev Γ ios (.inp i xs j ys true))) :=
  (pe_cmpR op_notInB (pe_plB h).1 (pe_plB h2).1 (marks_plain (pe_plB h2).2 _)).imp fun σ H Q q => tE_inp q
theorem pt_inpD (h : plB X.N X.env.scope i xs x = true) (h2 : plB X.N X.env.scope j ys y = true) : PT X (.Compare x [.In] [y] pos) (tT X.K (ev Γ ios (.inp i xs j ys false))) :=
  (pt_cmpR op_inB (pe_plB h).1 (pe_plB h2).1 (marks_plain (pe_plB h2).2 _)).imp fun σ H Q q => tE_inp (tE_tT q)
theorem pt_inpD' (h : plB X.N X.env.scope i xs x = true) (h2 : plB X.N X.env.scope j ys y = true) : PT X (.Compare x [.NotIn] [y] pos) (tT X.K (ev Γ ios (.inp i xs j ys true))) :=
  (pt_cmpR op_notInB (pe_plB h).1 (pe_plB h2).1 (marks_plain (pe_plB h2).2 _)).imp fun σ H Q q => tE_inp (tE_tT q)
end
end OE

/-! Oe9: calls of defs. -/
namespace OE
open PySem PySem.Spec PyProof.Rows L2

section
variable {X : Cx} {K : PySem.W.Frag} {Γ : Fns} {ios : List Nat} {a b c x y z : Expr} {pos p1 p2 p3 p apos : Pos} {ea eb ec e : E} {es : Es} {xs rest : List Expr} {k : Nat} {T : List FI} {n : Str}
variable {F : Addr → Prop} {H : Hp} {env : List D} {σ : L2.St} {O : List Addr} {v : V} {d : D} {as : As}

def AsV : As → List V → L2.St → Prop
  | .nil, [], _ => True
  | .ex _ r, _ :: vs, σ => AsV r vs σ
  | .io i r, v :: vs, σ => σ[i]? = some (some v) ∧ AsV r vs σ
  | .bw i r, v :: vs, σ => σ[i]? = some (some v) ∧ AsV r vs σ
  | _, _, _ => False
def tAs (K : PySem.W.Frag) (as : As) (m : List D → Option (List D × List D)) : TA := fun σ H Q => ∃ F env O ds env', St K F H env σ O ∧ m env = some (ds, env') ∧
  ∀ vs H' O', Ext O H O' H' → St K F H' (ds ++ env') (vs.map some ++ σ) O' → ds.length = vs.length → AsV as vs σ → Q vs H'
theorem tAs_nil {Q : List V → Hp → Prop} (h : tAs K .nil (evA Γ ios .nil) σ H Q) : tNil σ H Q := by
  obtain ⟨F, env, O, ds, env', st, e, post⟩ := h
  simp only [evA, Option.some.injEq, Prod.mk.injEq] at e
  obtain ⟨rfl, rfl⟩ := e
  exact post [] H O Ext.refl st rfl trivial
theorem tAs_ex {Q : List V → Hp → Prop} (h : tAs K (.ex e as) (evA Γ ios (.ex e as)) σ H Q) : tCons (tE K (ev Γ ios e)) (tAs K as (evA Γ ios as)) σ H Q := by
  obtain ⟨F, env, O, ds, env', st, e, post⟩ := h
  simp only [evA] at e
  rw [Option.bind_eq_some_iff] at e; obtain ⟨⟨a, env1⟩, e1, e⟩ := e
  rw [Option.map_eq_some_iff] at e; obtain ⟨⟨bs, env2⟩, e2, e⟩ := e
  simp only [Prod.mk.injEq] at e
  obtain ⟨rfl, rfl⟩ := e
  refine ⟨F, env, O, a, env1, st, e1, fun x H1 O1 ex1 st1 => ?_⟩
  obtain ⟨OP, OR, rfl, st1', back1⟩ := St.tail (P := [a]) (pv := [some x]) st1 rfl
  refine ⟨_, env1, OR, bs, env2, st1', e2, fun ys H2 O2 ex2 st2 hl av => ?_⟩
  obtain ⟨ex2', st2'⟩ := back1 _ _ _ _ ex2 st2
  exact post (x :: ys) H2 _ (ex1.trans ex2') st2' (by simp [hl]) av
theorem tAs_io {i : Nat} {Q : List V → Hp → Prop} (h : tAs K (.io i as) (evA Γ ios (.io i as)) σ H Q) : tCons (tVar i) (tAs K as (evA Γ ios as)) σ H Q := by
  obtain ⟨F, env, O, ds, env', st, e, post⟩ := h
  simp only [evA] at e
  rw [Option.bind_eq_some_iff] at e; obtain ⟨d0, e0, e⟩ := e
  rw [Option.map_eq_some_iff] at e; obtain ⟨⟨bs, env2⟩, e2, e⟩ := e
  simp only [Prod.mk.injEq] at e
  obtain ⟨rfl, rfl⟩ := e
  obtain ⟨v, Oi, hv, _, _⟩ := st.rep.slot e0
  refine ⟨v, hv, F, env, O, bs, env2, st, e2, fun vs H1 O1 ex st1 hl av => post (v :: vs) H1 O1 ex (st1.push fun A => by simp [Rep]) (by simp [hl]) ⟨hv, av⟩⟩
theorem tAs_bw {i : Nat} {Q : List V → Hp → Prop} (h : tAs K (.bw i as) (evA Γ ios (.bw i as)) σ H Q) : tCons (tVar i) (tAs K as (evA Γ ios as)) σ H Q := by
  obtain ⟨F, env, O, ds, env', st, e, post⟩ := h
  simp only [evA] at e
  rw [Option.bind_eq_some_iff] at e; obtain ⟨d0, e0, e⟩ := e
  rw [Option.map_eq_some_iff] at e; obtain ⟨⟨bs, env2⟩, e2, e⟩ := e
  simp only [Prod.mk.injEq] at e
  obtain ⟨rfl, rfl⟩ := e
  obtain ⟨v, Oi, hv, _, _⟩ := st.rep.slot e0
  refine ⟨v, hv, F, env, O, bs, env2, st, e2, fun vs H1 O1 ex st1 hl av => post (v :: vs) H1 O1 ex (st1.push fun A => by simp [Rep]) (by simp [hl]) ⟨hv, av⟩⟩
/-- the slots have values -/
def Full (as : As) (σ : L2.St) : Prop := match as with
  | .nil => True
  | .ex _ r => Full r σ
  | .io i r => (∃ v, σ[i]? = some (some v)) ∧ Full r σ
  | .bw i r => (∃ v, σ[i]? = some (some v)) ∧ Full r σ

/-! filling in, laying back -/
theorem St.mvIn {i : Nat} {R : List D} {rv : List (Option V)} (st : St K F H (.hole :: (R ++ env)) (some v :: (rv ++ σ)) O) (hl : rv.length = R.length) (h : getV env i = some d) (hv : σ[i]? = some (some v)) :
    ∃ O', (∀ a ∈ O', a ∈ O) ∧ St K F H (d :: (R ++ env.set i .hole)) (some v :: (rv ++ σ)) O' := by
  have st1 := st.unpush
  have g : getV (R ++ env) (R.length + i) = some d := by
    unfold getV at h ⊢
    rw [List.getElem?_append_right (by omega)]
    simpa using h
  obtain ⟨w, hw, O', pm, st2⟩ := st1.take g
  have e1 : (R ++ env).set (R.length + i) .hole = R ++ env.set i .hole := by
    rw [List.set_append_right _ _ (by omega)]; simp
  rw [e1] at st2
  have e2 : w = v := by
    rw [← hl, List.getElem?_append_right (by omega)] at hw
    have : rv.length + i - rv.length = i := by omega
    rw [this, hv] at hw
    cases hw; rfl
  subst e2
  exact ⟨O', fun a ha => pm.mem_iff.mp ha, st2⟩
theorem fill_ok : ∀ {as : As} {ds : List D} {vs : List V} {env ds2 env2 : List D} {O : List Addr} {F : Addr → Prop}, St K F H (ds ++ env) (vs.map some ++ σ) O → ds.length = vs.length → AsV as vs σ → fillA as ds env = some (ds2, env2) → hasBw as = false →
    ∃ O', (∀ a ∈ O', a ∈ O) ∧ St K F H (ds2 ++ env2) (vs.map some ++ σ) O' ∧ ds2.length = vs.length ∧ env2.length = env.length
  | .nil, [], [], env, ds2, env2, O, F, st, hl, av, e, hb => by
    simp only [fillA, Option.some.injEq, Prod.mk.injEq] at e
    obtain ⟨rfl, rfl⟩ := e
    exact ⟨O, fun _ h => h, st, rfl, rfl⟩
  | .ex e0 r, d :: ds, v :: vs, env, ds2, env2, O, F, st, hl, av, e, hb => by
    simp only [fillA] at e
    rw [Option.map_eq_some_iff] at e; obtain ⟨⟨ds3, env3⟩, e1, e⟩ := e
    simp only [Prod.mk.injEq] at e
    obtain ⟨rfl, rfl⟩ := e
    obtain ⟨OP, OR, rfl, st1, back⟩ := St.tail (P := [d]) (pv := [some v]) st rfl
    obtain ⟨O', sub, st2, h3, h4⟩ := fill_ok st1 (by simpa using hl) av e1 hb
    obtain ⟨ex, st3⟩ := back _ _ _ H (Ext.refl.less sub) st2
    refine ⟨OP ++ O', fun a ha => ?_, st3, by simp [h3], h4⟩
    rcases List.mem_append.mp ha with ha | ha
    · exact List.mem_append_left _ ha
    · exact List.mem_append_right _ (sub a ha)
  | .io i r, d :: ds, v :: vs, env, ds2, env2, O, F, st, hl, av, e, hb => by
    simp only [fillA] at e
    rw [Option.bind_eq_some_iff] at e; obtain ⟨d1, e0, e⟩ := e
    rw [Option.map_eq_some_iff] at e; obtain ⟨⟨ds3, env3⟩, e1, e⟩ := e
    simp only [Prod.mk.injEq] at e
    obtain ⟨rfl, rfl⟩ := e
    obtain ⟨hv, av⟩ := av
    obtain ⟨O1, sub1, stD⟩ := st.dropTop
    have st0 : St K F H (.hole :: (ds ++ env)) (some v :: (vs.map some ++ σ)) O1 := St.push stD fun A => by simp [Rep]
    obtain ⟨O2, sub2, st2⟩ := st0.mvIn (by rw [List.length_map]; simpa using hl.symm) e0 hv
    obtain ⟨OP, OR, rfl, st3, back⟩ := St.tail (P := [d1]) (pv := [some v]) st2 rfl
    obtain ⟨O', sub, st4, h3, h4⟩ := fill_ok st3 (by simpa using hl) av e1 hb
    obtain ⟨ex, st5⟩ := back _ _ _ H (Ext.refl.less sub) st4
    refine ⟨OP ++ O', fun a ha => sub1 a (sub2 a ?_), st5, by simp [h3], by rw [h4, List.length_set]⟩
    rcases List.mem_append.mp ha with ha | ha
    · exact List.mem_append_left _ ha
    · exact List.mem_append_right _ (sub a ha)
  | .bw i r, _, _, _, _, _, _, _, _, _, _, _, hb => by simp [hasBw] at hb
  | .nil, _ :: _, _, _, _, _, _, _, _, _, _, e, _ => by simp [fillA] at e
  | .nil, [], _ :: _, _, _, _, _, _, _, hl, _, _, _ => by simp at hl
  | .ex _ _, [], _, _, _, _, _, _, _, _, _, e, _ => by simp [fillA] at e
  | .io _ _, [], _, _, _, _, _, _, _, _, _, e, _ => by simp [fillA] at e
  | .ex _ _, _ :: _, [], _, _, _, _, _, _, hl, _, _, _ => by simp at hl
  | .io _ _, _ :: _, [], _, _, _, _, _, _, hl, _, _, _ => by simp at hl
theorem back_ok : ∀ {as : As} {ds : List D} {vs : List V} {env env2 : List D} {O : List Addr} {F : Addr → Prop}, St K F H (ds ++ env) (vs.map some ++ σ) O → ds.length = vs.length → AsV as vs σ → backA as ds env = some env2 → env.length = σ.length →
    ∃ O', (∀ a ∈ O', a ∈ O) ∧ St K F H env2 σ O'
  | .nil, [], [], env, env2, O, F, st, hl, av, e, hn => by
    simp only [backA, Option.some.injEq] at e
    subst e
    exact ⟨O, fun _ h => h, st⟩
  | .ex e0 r, d :: ds, v :: vs, env, env2, O, F, st, hl, av, e, hn => by
    simp only [backA] at e
    obtain ⟨O1, sub1, st1⟩ := st.dropTop
    obtain ⟨O', sub, st2⟩ := back_ok st1 (by simpa using hl) av e hn
    exact ⟨O', fun a ha => sub1 a (sub a ha), st2⟩
  | .bw i r, d :: ds, v :: vs, env, env2, O, F, st, hl, av, e, hn => by
    simp only [backA] at e
    obtain ⟨O1, sub1, st1⟩ := st.dropTop
    obtain ⟨O', sub, st2⟩ := back_ok st1 (by simpa using hl) av.2 e hn
    exact ⟨O', fun a ha => sub1 a (sub a ha), st2⟩
  | .io i r, d :: ds, v :: vs, env, env2, O, F, st, hl, av, e, hn => by
    simp only [backA] at e
    obtain ⟨hv, av⟩ := av
    have hi : i < env.length := by rw [hn]; exact (List.getElem?_eq_some_iff.mp hv).1
    have hs : ((vs.map some ++ σ) : List (Option V))[(ds ++ env).length - env.length + i]? = some (some v) := by
      have : (ds ++ env).length - env.length + i = (vs.map some).length + i := by simp; simpa using hl
      rw [this, List.getElem?_append_right (by omega)]
      simpa using hv
    obtain ⟨O1, sub1, st1⟩ := St.lay' (i := (ds ++ env).length - env.length + i) st hs (by simp; omega)
    have e1 : (ds ++ env).set ((ds ++ env).length - env.length + i) d = ds ++ env.set i d := by
      have : (ds ++ env).length - env.length + i = ds.length + i := by simp
      rw [this, List.set_append_right _ _ (by omega)]; simp
    have st1' : St K F H ((ds ++ env).set ((ds ++ env).length - env.length + i) d) (vs.map some ++ σ) O1 := st1
    rw [e1] at st1'
    obtain ⟨O', sub, st2⟩ := back_ok st1' (by simpa using hl) av e (by rw [List.length_set]; exact hn)
    exact ⟨O', fun a ha => sub1 a (sub a ha), st2⟩
  | .nil, _ :: _, _, _, _, _, _, _, _, _, e, _ => by simp [backA] at e
  | .nil, [], _ :: _, _, _, _, _, _, hl, _, _, _ => by simp at hl
  | .ex _ _, [], _, _, _, _, _, _, _, _, e, _ => by simp [backA] at e
  | .io _ _, [], _, _, _, _, _, _, _, _, e, _ => by simp [backA] at e
  | .bw _ _, [], _, _, _, _, _, _, _, _, e, _ => by simp [backA] at e
  | .ex _ _, _ :: _, [], _, _, _, _, _, hl, _, _, _ => by simp at hl
  | .io _ _, _ :: _, [], _, _, _, _, _, hl, _, _, _ => by simp at hl
  | .bw _ _, _ :: _, [], _, _, _, _, _, hl, _, _, _ => by simp at hl
/-- f(..): from the arguments as written to the promise -/
theorem tE_call {f : Nat} {np : Nat} {Q : VK} {E : XK} (hb : hasBw as = false) (h : tE K (ev Γ ios (.call f as)) σ H Q) (hn : ∀ ds r, Γ f ds = some r → ds.length = np) :
    tCall (spD K np (Γ f)) [] E (tAs K as (evA Γ ios as)) σ H Q := by
  obtain ⟨F, env, O, d, env', st, e, post⟩ := h
  simp only [ev, hb, Bool.false_and, Bool.false_eq_true, if_false] at e
  rw [Option.bind_eq_some_iff] at e; obtain ⟨⟨ds, env1⟩, e1, e⟩ := e
  rw [Option.bind_eq_some_iff] at e; obtain ⟨⟨ds2, env2⟩, e2, e⟩ := e
  rw [Option.bind_eq_some_iff] at e; obtain ⟨⟨r, outs⟩, e3, e⟩ := e
  rw [Option.map_eq_some_iff] at e; obtain ⟨env3, e4, e⟩ := e
  simp only [Prod.mk.injEq] at e
  obtain ⟨rfl, rfl⟩ := e
  refine ⟨F, env, O, ds, env1, st, e1, fun vs H1 O1 ex1 st1 hl av => ?_⟩
  obtain ⟨O2, sub2, st2, hl2, hle⟩ := fill_ok st1 hl av e2 hb
  obtain ⟨OP, OR, rfl, st3, back⟩ := St.head (P := ds2) (pv := vs.map some) st2 (by simp [hl2])
  rw [List.append_nil]
  refine ⟨by rw [← hl2]; exact hn _ _ e3, _, ds2, OP, r, outs, st3, e3, fun v H2 O3 ex3 st4 => ?_⟩
  obtain ⟨ex5, st5⟩ := back _ _ _ _ ex3 st4
  obtain ⟨OP2, OR2, e9, st6, back6⟩ := St.tail (P := [r]) (pv := [some v]) (R := outs ++ env2) (rv := vs.map some ++ σ) st5 rfl
  have hle2 : env2.length = σ.length := by
    have h1 := st2.rep.len
    simp only [List.length_append, List.length_map] at h1
    omega
  have hlo : outs.length = vs.length := by
    have h1 := st4.rep.len
    simp only [List.length_cons, List.length_map] at h1
    omega
  obtain ⟨O7, sub7, st7⟩ := back_ok st6 hlo av e4 hle2
  obtain ⟨ex8, st8⟩ := back6 _ _ _ H2 (Ext.refl.less sub7) st7
  exact post v H2 _ ((ex1.less sub2).trans (ex5.trans ex8)) st8
end
end OE

/-! Oe10: what is walked. -/
namespace OE
open PySem PySem.Spec PyProof.Rows L2

section
variable {X : Cx} {K : PySem.W.Frag} {Γ : Fns} {ios : List Nat} {a b c x y z : Expr} {pos p1 p2 p3 p apos : Pos} {ea eb ec e : E} {es : Es} {xs rest : List Expr} {k : Nat} {T : List FI} {n : Str}
variable {F : Addr → Prop} {H H' : Hp} {env : List D} {σ : L2.St} {O : List Addr} {v : V} {d : D} {as : As}

/-- J walks the items: CI i what stands for the iterator's source at turn i, CV its values -/
structure Iter (K : PySem.W.Frag) (J : L2.It) (items : List D) (CI : Nat → List D) (CV : List (Option V)) : Prop where
  len : ∀ i, (CI i).length = CV.length
  go : ∀ i F H R rv O d, items[i]? = some d → St K F H (CI i ++ R) (CV ++ rv) O → J.go i H ∧ ∀ x H', J.yld i H x H' → ∃ O', Ext O H O' H' ∧ St K F H' (d :: (CI (i + 1) ++ R)) (some x :: (CV ++ rv)) O'
  stop : ∀ F H R rv O, St K F H (CI items.length ++ R) (CV ++ rv) O → J.stop items.length H
  most : items.length ≤ sizeLine
/-- what is put back behind the walk -/
def Back (K : PySem.W.Frag) (σ : L2.St) (n : Nat) (CI : Nat → List D) (CV : List (Option V)) (r : Option (Nat × D)) : Prop :=
  ∀ F H env σ' O i, i ≤ n → (∀ j ∈ putI r, σ'[j]? = σ[j]?) → env.length = σ'.length → σ'.length = σ.length → St K F H (CI i ++ env) (CV ++ σ') O → ∃ O', (∀ a ∈ O', a ∈ O) ∧ St K F H (putD r env) σ' O'
def tI (K : PySem.W.Frag) (m : List D → Option (List D × List D × Option (Nat × D))) : TI := fun σ H R => ∃ F env O items env1 r, St K F H env σ O ∧ m env = some (items, env1, r) ∧
  ∀ J CI CV H1 O1, Ext O H O1 H1 → Iter K J items CI CV → Back K σ items.length CI CV r → St K F H1 (CI 0 ++ env1) (CV ++ σ) O1 → R J H1
theorem _root_.L2.PI.imp {X : Cx} {tg e : Expr} {t t' : TI} (h : PI X tg e t) (i : ∀ σ H Q, t' σ H Q → t σ H Q) : PI X tg e t' := ⟨fun pins s σ H Q I w => h.run pins s σ H Q I (i σ H Q w)⟩

theorem back_none {CI : Nat → List D} {CV : List (Option V)} {n : Nat} (hl : ∀ i, (CI i).length = CV.length) : Back K σ n CI CV none := by
  intro F H env σ' O i _ _ _ _ st
  obtain ⟨OP, OR, rfl, st2, back⟩ := St.tail (P := CI i) (pv := CV) st (hl i).symm
  exact ⟨OR, fun a ha => List.mem_append_right _ ha, st2.less fun a z => .inl z⟩

/-! a range -/
theorem rngD_get {lo hi : Int} {i : Nat} {d : D} (h : (rngD lo hi)[i]? = some d) : i < (hi - lo).toNat ∧ d = .int (lo + (i : Nat)) := by
  unfold rngD at h
  rw [List.getElem?_map] at h
  rw [Option.map_eq_some_iff] at h; obtain ⟨j, h1, h2⟩ := h
  obtain ⟨h3, h4⟩ := List.getElem?_eq_some_iff.mp h1
  simp only [List.length_range] at h3
  simp only [List.getElem_range] at h4
  subst h4
  exact ⟨h3, h2.symm⟩
theorem rngD_len (lo hi : Int) : (rngD lo hi).length = (hi - lo).toNat := by simp [rngD]
theorem iter_rng {lo hi : Int} (hl : (hi - lo).toNat ≤ sizeLine) : Iter K (Itr lo (hi - lo).toNat) (rngD lo hi) (fun _ => []) [] where
  len := fun _ => rfl
  go := fun i F H R rv O d h st => by
    obtain ⟨h1, rfl⟩ := rngD_get h
    exact ⟨h1, fun x H' ⟨e1, e2⟩ => by subst e1 e2; exact ⟨O, Ext.refl, St.pushInt st⟩⟩
  stop := fun F H R rv O st => by rw [rngD_len]; exact Nat.le_refl _
  most := by rw [rngD_len]; exact hl
theorem rngOk_c {m n : Int} (h : rngOk m n = true) : -(2 ^ 62) ≤ m ∧ m < 2 ^ 62 ∧ -(2 ^ 62) ≤ n ∧ n < 2 ^ 62 ∧ (n - m).toNat ≤ sizeLine := by
  simp only [rngOk, small, Bool.and_eq_true, chk_iff] at h
  obtain ⟨⟨⟨h1, h2⟩, h3, h4⟩, h5⟩ := h
  exact ⟨h1, h2, h3, h4, h5⟩
theorem pi_rng1 {tg : Expr} (hm : X.mg "range" = none) (hg : glB X.env.scope "range" = true) (ha : PE X a (tE X.K (ev Γ ios ea))) (hp : plainX a = true) :
    PI X tg (.Call (.Name "range" p) [a] [] pos) (tI X.K (evI Γ ios (.rng1 ea))) := by
  obtain ⟨h1, h2, h3⟩ := glB_ok hg
  refine (pi_range1 h1 hm (pa_cons ha pa_nil (star_plain hp _ _)) (by rw [star_plain hp]; rfl)).imp fun σ H Q q => ?_
  obtain ⟨F, env, O, items, env1, r, st, e, post⟩ := q
  simp only [evI] at e
  rw [Option.bind_eq_some_iff] at e; obtain ⟨⟨d1, env2⟩, e1, e⟩ := e
  cases d1 <;> simp only [reduceCtorEq] at e
  rename_i j
  rw [Option.map_eq_some_iff] at e; obtain ⟨its, hr, e⟩ := e
  simp only [Prod.mk.injEq] at e
  obtain ⟨rfl, rfl, rfl⟩ := e
  simp only [rngs, Option.ite_none_right_eq_some, Option.some.injEq] at hr
  obtain ⟨hr, rfl⟩ := hr
  obtain ⟨_, _, g3, g4, g5⟩ := rngOk_c hr
  refine ⟨F, env, O, _, _, st, e1, fun x H1 O1 ex1 st1 => ?_⟩
  obtain ⟨e0, q0⟩ := st1.intTop
  refine ⟨j, by rw [e0], g3, g4, ?_⟩
  have := post (Itr 0 (j - 0).toNat) (fun _ => []) [] H1 O1 ex1 (iter_rng g5) (back_none fun _ => rfl) q0
  simpa using this
theorem pi_rng2 {tg : Expr} (hm : X.mg "range" = none) (hg : glB X.env.scope "range" = true) (ha : PE X a (tE X.K (ev Γ ios ea))) (hp : plainX a = true) (hb : PE X b (tE X.K (ev Γ ios eb))) (hp2 : plainX b = true) :
    PI X tg (.Call (.Name "range" p) [a, b] [] pos) (tI X.K (evI Γ ios (.rng2 ea eb))) := by
  obtain ⟨h1, h2, h3⟩ := glB_ok hg
  refine (pi_range2 h1 hm (pa_cons ha (pa_cons hb pa_nil (star_plain hp2 _ _)) (star_plain hp _ _)) (by rw [star_plain hp, star_plain hp2]; rfl) (by rw [star_plain hp2]; rfl)).imp fun σ H Q q => ?_
  obtain ⟨F, env, O, items, env1, r, st, e, post⟩ := q
  simp only [evI] at e
  rw [Option.bind_eq_some_iff] at e; obtain ⟨⟨d1, env2⟩, e1, e⟩ := e
  rw [Option.bind_eq_some_iff] at e; obtain ⟨⟨d2, env3⟩, e2, e⟩ := e
  cases d1 <;> cases d2 <;> simp only [reduceCtorEq] at e
  rename_i i j
  rw [Option.map_eq_some_iff] at e; obtain ⟨its, hr, e⟩ := e
  simp only [Prod.mk.injEq] at e
  obtain ⟨rfl, rfl, rfl⟩ := e
  simp only [rngs, Option.ite_none_right_eq_some, Option.some.injEq] at hr
  obtain ⟨hr, rfl⟩ := hr
  obtain ⟨g1, g2, g3, g4, g5⟩ := rngOk_c hr
  refine ⟨F, env, O, _, _, st, e1, fun x H1 O1 ex1 st1 => ?_⟩
  obtain ⟨e0, q0⟩ := st1.intTop
  refine ⟨F, _, _, _, _, q0, e2, fun y H2 O2 ex2 st2 => ?_⟩
  obtain ⟨e5, q5⟩ := st2.intTop
  exact ⟨i, j, by rw [e0, e5], ⟨g1, g2, g3, g4⟩, post (Itr i (j - i).toNat) (fun _ => []) [] H2 O2 (ex1.trans ex2) (iter_rng g5) (back_none fun _ => rfl) q5⟩

/-! a list or a tuple, its things taken out one by one -/
def holes (i : Nat) (ds : List D) : List D := List.replicate i D.hole ++ ds.drop i
theorem holes_len {i : Nat} {ds : List D} (h : i ≤ ds.length) : (holes i ds).length = ds.length := by simp [holes]; omega
theorem holes_at {i : Nat} {ds : List D} {d : D} (h : ds[i]? = some d) : holes i ds = List.replicate i D.hole ++ d :: ds.drop (i + 1) ∧ holes (i + 1) ds = List.replicate i D.hole ++ D.hole :: ds.drop (i + 1) := by
  obtain ⟨h1, h2⟩ := List.getElem?_eq_some_iff.mp h
  refine ⟨by unfold holes; rw [List.drop_eq_getElem_cons h1, h2], ?_⟩
  unfold holes
  rw [List.replicate_succ', List.append_assoc]; rfl
/-- a thing taken out -/
theorem RepL.out {A : Addr → Prop} : ∀ {n : Nat} {d : D} {ds : List D} {vs : List V} {O : List Addr}, RepL K A H (List.replicate n D.hole ++ d :: ds) vs O →
    ∃ v O1 O2, vs[n]? = some v ∧ O = O1 ++ O2 ∧ Rep K A H d v O1 ∧ RepL K A H (List.replicate n D.hole ++ D.hole :: ds) vs O2
  | 0, d, ds, vs, O, r => by
    simp only [RepL, List.replicate_zero, List.nil_append, Rep.RepL] at r ⊢
    obtain ⟨v, vs', O1, O2, rfl, rfl, r1, r2⟩ := r
    exact ⟨v, O1, O2, rfl, rfl, r1, v, vs', [], O2, rfl, rfl, by simp [Rep], r2⟩
  | n + 1, d, ds, vs, O, r => by
    simp only [RepL, List.replicate_succ, List.cons_append, Rep.RepL] at r
    obtain ⟨v, vs', O1, O2, rfl, rfl, r1, r2⟩ := r
    obtain rfl : O1 = [] := by simpa [Rep] using r1
    obtain ⟨w, O3, O4, h1, h2, h3, h4⟩ := RepL.out (n := n) r2
    subst h2
    refine ⟨w, O3, O4, by simpa using h1, rfl, h3, ?_⟩
    simp only [RepL, List.replicate_succ, List.cons_append, Rep.RepL]
    exact ⟨v, vs', [], O4, rfl, rfl, by simp [Rep], h4⟩
theorem St.outL {o : Bool} {n : Nat} {ds : List D} {R : List D} {rv : List (Option V)} {q : Addr} {vs : List V} (st : St K F H (.lst o (List.replicate n D.hole ++ d :: ds) :: R) (some (.ref q) :: rv) O) (hq : H q = some (.lst vs)) :
    ∃ v, vs[n]? = some v ∧ ∃ O', (∀ a ∈ O', a ∈ O) ∧ St K F H (d :: .lst o (List.replicate n D.hole ++ D.hole :: ds) :: R) (some v :: some (.ref q) :: rv) O' := by
  obtain ⟨nd, nf, fh, ov, σ', O1, O2, e1, rfl, r1, r2⟩ := st
  obtain ⟨rfl, rfl⟩ : some (V.ref q) = ov ∧ rv = σ' := by simpa using e1
  obtain ⟨u, e2, r1⟩ := r1.val (by simp)
  cases e2
  have hlen : (List.replicate n D.hole ++ D.hole :: ds).length = (List.replicate n D.hole ++ d :: ds).length := by simp
  cases o with
  | false =>
    simp only [Rep] at r1
    obtain ⟨rfl, a, vs2, e3, ⟨hq2, hn⟩, hl, r1⟩ := r1
    cases e3
    rw [hq] at hq2; cases hq2
    obtain ⟨v, O3, O4, h1, h2, h3, h4⟩ := RepL.out r1
    obtain ⟨rfl, rfl⟩ : O3 = [] ∧ O4 = [] := by simpa using h2.symm
    refine ⟨v, h1, O2, fun a ha => by simpa using ha, (by simpa using nd), fun a ha => nf a (by simpa using ha), fh, some v, _, [], O2, rfl, rfl, .inr ⟨v, rfl, by simpa using h3⟩, some (.ref q), rv, [], O2, rfl, rfl, .inr ⟨_, rfl, ?_⟩, by simpa using r2⟩
    simp only [Rep]
    exact ⟨trivial, q, vs, rfl, ⟨hq, by simpa using hn⟩, by rw [hlen]; exact hl, by simpa using h4⟩
  | true =>
    simp only [Rep] at r1
    obtain ⟨a, vs2, O1', rfl, e3, hq2, hl, r1⟩ := r1
    cases e3
    rw [hq] at hq2; cases hq2
    obtain ⟨v, O3, O4, h1, rfl, h3, h4⟩ := RepL.out r1
    have pm : (O3 ++ (q :: O4 ++ O2)).Perm (q :: (O3 ++ O4) ++ O2) := by
      rw [List.cons_append, List.cons_append, List.append_assoc]
      exact List.perm_middle
    have mv : ∀ a, ¬ (F a ∨ a ∈ q :: (O3 ++ O4) ++ O2) → H a ≠ none → ¬ (F a ∨ a ∈ O3 ++ (q :: O4 ++ O2)) := fun a hn _ z => hn (z.imp_right pm.mem_iff.mp)
    refine ⟨v, h1, O3 ++ (q :: O4 ++ O2), fun a ha => pm.mem_iff.mp ha, pm.nodup_iff.mpr nd, fun a ha => nf a (pm.mem_iff.mp ha), fh, some v, _, O3, _, rfl, rfl, .inr ⟨v, rfl, h3.move d (fun _ _ e _ => e) mv⟩, some (.ref q), rv, q :: O4, O2, rfl, rfl, .inr ⟨_, rfl, ?_⟩, r2.move (fun _ _ e _ => e) mv⟩
    simp only [Rep]
    exact ⟨q, vs, O4, rfl, rfl, hq, by rw [hlen]; exact hl, RepL.move _ h4 (fun _ _ e _ => e) mv⟩
theorem St.outT {n : Nat} {ds : List D} {R : List D} {rv : List (Option V)} {w : V} (st : St K F H (.tup (List.replicate n D.hole ++ d :: ds) :: R) (some w :: rv) O) :
    ∃ q vs v, w = .ref q ∧ SqT K H q vs ∧ vs[n]? = some v ∧ ∃ O', (∀ a ∈ O', a ∈ O) ∧ St K F H (d :: .tup (List.replicate n D.hole ++ D.hole :: ds) :: R) (some v :: some w :: rv) O' := by
  obtain ⟨nd, nf, fh, ov, σ', O1, O2, e1, rfl, r1, r2⟩ := st
  obtain ⟨rfl, rfl⟩ : some w = ov ∧ rv = σ' := by simpa using e1
  obtain ⟨u, e2, r1⟩ := r1.val (by simp)
  cases e2
  obtain ⟨q, vs, rfl, ht, hl, r1⟩ := Rep.tupE r1
  obtain ⟨v, O3, O4, h1, rfl, h3, h4⟩ := RepL.out r1
  refine ⟨q, vs, v, rfl, ht, h1, O3 ++ (O4 ++ O2), fun a ha => by rwa [List.append_assoc], by rw [← List.append_assoc]; exact nd, fun a ha => nf a (by rwa [List.append_assoc]), fh, some v, _, O3, _, rfl, rfl, .inr ⟨v, rfl, h3.move d (fun _ _ e _ => e) fun a hn _ z => hn (by rwa [List.append_assoc])⟩, some (.ref q), rv, O4, O2, rfl, rfl, .inr ⟨_, rfl, ?_⟩, r2.move (fun _ _ e _ => e) fun a hn _ z => hn (by rwa [List.append_assoc])⟩
  simp only [Rep]
  exact ⟨q, vs, rfl, ht, by simpa using hl, RepL.move _ h4 (fun _ _ e _ => e) fun a hn _ z => hn (by rwa [List.append_assoc])⟩
theorem St.topL {o : Bool} {ds R : List D} {rv : List (Option V)} {w : V} (st : St K F H (.lst o ds :: R) (some w :: rv) O) : ∃ q vs, w = .ref q ∧ H q = some (.lst vs) ∧ vs.length = ds.length ∧ ds.length ≤ sizeLine := by
  obtain ⟨nd, nf, fh, ov, σ', O1, O2, e1, rfl, r1, r2⟩ := st
  obtain ⟨rfl, rfl⟩ : some w = ov ∧ rv = σ' := by simpa using e1
  obtain ⟨u, e2, r1⟩ := r1.val (by simp)
  cases e2
  obtain ⟨q, vs, Oi, rfl, hq, hl, r, _⟩ := Rep.seq r1
  exact ⟨q, vs, rfl, hq, RepL.len r, hl⟩
theorem St.topT {ds R : List D} {rv : List (Option V)} {w : V} (st : St K F H (.tup ds :: R) (some w :: rv) O) : ∃ q vs, w = .ref q ∧ SqT K H q vs ∧ vs.length = ds.length ∧ ds.length ≤ sizeLine := by
  obtain ⟨nd, nf, fh, ov, σ', O1, O2, e1, rfl, r1, r2⟩ := st
  obtain ⟨rfl, rfl⟩ : some w = ov ∧ rv = σ' := by simpa using e1
  obtain ⟨u, e2, r1⟩ := r1.val (by simp)
  cases e2
  obtain ⟨q, vs, rfl, ht, hl, r⟩ := Rep.tupE r1
  exact ⟨q, vs, rfl, ht, RepL.len r, hl⟩
theorem iter_lst {o : Bool} {ds : List D} {q : Addr} (hl : ds.length ≤ sizeLine) : Iter K (Itl K q) ds (fun i => [.lst o (holes i ds)]) [some (.ref q)] where
  len := fun _ => rfl
  go := fun i F H R rv O d h st => by
    obtain ⟨h1, h2⟩ := holes_at h
    obtain ⟨q', vs, e, hq, hlv, _⟩ := St.topL st
    cases e
    rw [h1] at st
    obtain ⟨v, hv, O', sub, st2⟩ := St.outL st hq
    refine ⟨⟨vs, v, .inl (.inl hq), hv⟩, fun x H' ⟨e1, e2⟩ => ?_⟩
    subst e1
    have := e2 vs (.inl (.inl hq))
    rw [hv] at this; cases this
    refine ⟨O', Ext.refl.less sub, ?_⟩
    rw [h2]
    exact st2
  stop := fun F H R rv O st => by
    obtain ⟨q', vs, e, hq, hlv, _⟩ := St.topL st
    cases e
    refine ⟨vs, .inl (.inl hq), ?_⟩
    rw [hlv, holes_len (Nat.le_refl _)]
    exact Nat.le_refl _
  most := hl
theorem iter_tup {ds : List D} {q : Addr} (hl : ds.length ≤ sizeLine) : Iter K (Itt K q) ds (fun i => [.tup (holes i ds)]) [some (.ref q)] where
  len := fun _ => rfl
  go := fun i F H R rv O d h st => by
    obtain ⟨h1, h2⟩ := holes_at h
    rw [h1] at st
    obtain ⟨q', vs, v, e, ht, hv, O', sub, st2⟩ := St.outT st
    cases e
    refine ⟨⟨vs, v, ht, hv⟩, fun x H' ⟨e1, e2⟩ => ?_⟩
    subst e1
    have := e2 vs ht
    rw [hv] at this; cases this
    refine ⟨O', Ext.refl.less sub, ?_⟩
    rw [h2]
    exact st2
  stop := fun F H R rv O st => by
    obtain ⟨q', vs, e, ht, hlv, _⟩ := St.topT st
    cases e
    refine ⟨vs, ht, ?_⟩
    rw [hlv, holes_len (Nat.le_refl _)]
    exact Nat.le_refl _
  most := hl
theorem holes_zero (ds : List D) : holes 0 ds = ds := by simp [holes]
/-- a list or a tuple -/
def iSeqD (K : PySem.W.Frag) (te : TE) : TI := fun σ H R => te σ H fun x H1 => ∃ a, x = .ref a ∧ (((∃ xs, SqL K H1 a xs) ∧ R (Itl K a) H1) ∨ ((∃ xs, SqT K H1 a xs) ∧ R (Itt K a) H1))
theorem pi_seqD {tg l : Expr} {tl : TE} (hl : PE X l tl) : PI X tg l (iSeqD X.K tl) := by
  refine ⟨fun pins s σ H R I h => ?_⟩
  refine thn (hl.run pins s σ H _ I h) fun v s1 ⟨x, H1, I1, r1, q1⟩ => ?_
  obtain ⟨a, e, q1⟩ := q1
  subst e
  cases r1
  rcases q1 with ⟨⟨xs, hq⟩, q⟩ | ⟨⟨xs, hq⟩, q⟩
  · obtain ⟨its, rv, p, hz⟩ := I1.list hq
    refine wpAny_pyIter_list p.isList ?_
    refine ⟨s1.heap.objs.size, [s1.heap.objs.size], _, _, H1, rfl, I1.kept (t' := s1.toks) fun b o e => Heap.get?_push_of_some _ e, turn_list a _, ⟨_, Heap.get?_push_size _ rfl, rfl, rfl⟩, fun b hb => ?_, q⟩
    have e : b = s1.heap.objs.size := by simpa using hb
    subst e
    exact I1.fpOk (Nat.le_refl _) (I1.hok.fresh (Nat.le_refl _))
  · obtain ⟨its, rv, p, hz⟩ := I1.tuple hq
    refine wpAny_pyIter_tuple (show s1.heap.IsTuple a its.toArray from p) ?_
    refine ⟨s1.heap.objs.size, [s1.heap.objs.size], _, _, H1, rfl, I1.kept (t' := s1.toks) fun b o e => Heap.get?_push_of_some _ e, turn_tuple a _, ⟨_, Heap.get?_push_size _ rfl, rfl, rfl⟩, fun b hb => ?_, q⟩
    have e : b = s1.heap.objs.size := by simpa using hb
    subst e
    exact I1.fpOk (Nat.le_refl _) (I1.hok.fresh (Nat.le_refl _))
theorem pi_e {tg : Expr} (ha : PE X a (tE X.K (ev Γ ios ea))) : PI X tg a (tI X.K (evI Γ ios (.e ea))) := by
  refine (pi_seqD ha).imp fun σ H Q q => ?_
  obtain ⟨F, env, O, items, env1, r, st, e, post⟩ := q
  simp only [evI] at e
  rw [Option.bind_eq_some_iff] at e; obtain ⟨⟨d1, env2⟩, e1, e⟩ := e
  rw [Option.map_eq_some_iff] at e; obtain ⟨xs, e2, e⟩ := e
  simp only [Prod.mk.injEq] at e
  obtain ⟨rfl, rfl, rfl⟩ := e
  refine ⟨F, env, O, _, _, st, e1, fun x H1 O1 ex1 st1 => ?_⟩
  cases d1 <;> simp only [seqD, reduceCtorEq, Option.some.injEq] at e2 <;> subst e2
  · obtain ⟨q, vs, rfl, ht, hlv, hl⟩ := St.topT st1
    refine ⟨q, rfl, .inr ⟨⟨vs, ht⟩, ?_⟩⟩
    exact post _ _ _ H1 O1 ex1 (iter_tup hl) (back_none fun _ => rfl) (by simpa [holes_zero] using st1)
  · obtain ⟨q, vs, rfl, ht, hlv, hl⟩ := St.topL st1
    refine ⟨q, rfl, .inl ⟨⟨vs, .inl (.inl ht)⟩, ?_⟩⟩
    exact post _ _ _ H1 O1 ex1 (iter_lst hl) (back_none fun _ => rfl) (by simpa [holes_zero] using st1)
end
end OE

/-! OeT: enumerate(a tuple) in a for or a comprehension. -/
namespace OE
open PySem PySem.Spec PyProof.Rows L2

section
open PySem
theorem meets_enumerate_newB1 {v : Value} {o : Obj} {H : Heap → Prop} (B : Begins v o H) :
    Meets (Builtin.«enumerate.__new__» ⟨[.type "enumerate", v], []⟩) (fun _ R s => H s.heap ∧
      R (.ok (.ret (.ref (s.heap.push o).objs.size))) { s with heap := (s.heap.push o).push { cls := .type "enumerate", data := .fields #[.none, .bool false, .ref s.heap.objs.size, rawInt 0, .none, .none] } }) :=
  .of_wp fun prog w A R s h => by
    obtain ⟨hp, g, d, tk, os⟩ := s; obtain ⟨h1, h⟩ := h
    have hsub := sub_enumerate
    have q1 : ∀ {A' : Around} {E : Value → Shared → Prop} {Q : Value → Shared → Prop}, Q (.ref hp.objs.size) ⟨hp.push o, g, d, tk, os⟩ → wpAny (model prog w) A' (pyIter v) Q E ⟨hp, g, d, tk, os⟩ :=
      fun q => B.iter prog w _ _ ⟨hp, g, d, tk, os⟩ _ h1 q
    wp_walk using q1
    refine wpAny_stack_any fun st => wpAny_pure ?_
    split
    · rename_i c _ _ _ _ _
      cases (c == Value.type "enumerate")
      · wp_walk using q1
        exact ⟨_, rfl, h⟩
      · wp_walk using q1
        exact ⟨_, rfl, h⟩
    · wp_walk using q1
      exact ⟨_, rfl, h⟩
theorem enum_begins1 {prog : Program} {w : World} {A : Around} {E : Value → Shared → Prop} {s : Shared} {v : Value} {o : Obj} {H : Heap → Prop} {Q : Value → Shared → Prop} (B : Begins v o H) (h1 : H s.heap)
    (h : ∀ h', IsEnum h' (s.heap.objs.size + 1) s.heap.objs.size 0 .none → h'.get? s.heap.objs.size = some o → h'.objs.size = s.heap.objs.size + 2 →
      (∀ b o, s.heap.get? b = some o → h'.get? b = some o) → Q (.ref (s.heap.objs.size + 1)) { s with heap := h' }) :
    wpAny (model prog w) A (call (.type "enumerate") [v]) Q E s := by
  refine callType_new F.called_enumerate (by decide) (F.typeCall_enumerate_1 _) (F.newCall_enumerate_1 _) (fun obj => F.args_object_init_2 obj _) F.entry_enumerate_new
    (meets_enumerate_newB1 B) ⟨h1, ?_⟩
  have hz : (s.heap.push o).objs.size = s.heap.objs.size + 1 := Heap.size_push ..
  show _ ∧ _
  rw [hz]
  have he : IsEnum ((s.heap.push o).push { cls := .type "enumerate", data := .fields #[.none, .bool false, .ref s.heap.objs.size, rawInt 0, .none, .none] }) (s.heap.objs.size + 1) s.heap.objs.size 0 .none := by
    have := Heap.get?_push_size (s.heap.push o) (o := { cls := .type "enumerate", data := .fields #[.none, .bool false, .ref s.heap.objs.size, rawInt 0, .none, .none] }) rfl
    rw [hz] at this; exact this
  refine ⟨⟨_, he, rfl⟩, h _ he (Heap.get?_push_of_some _ (Heap.get?_push_size _ B.free)) (by rw [Heap.size_push, hz]) fun b o x => Heap.get?_push_of_some _ (Heap.get?_push_of_some _ x)⟩
end

/-- the tuple at a, each item in a new pair -/
def IteT (K : PySem.W.Frag) (a : Addr) : L2.It :=
  ⟨fun i H => ∃ (xs : List V) (x : V), SqT K H a xs ∧ xs[i]? = some x, fun i H v H' => ∃ T x, v = .ref T ∧ H T = none ∧ H' = upd H T (.tup [.int (i : Nat), x]) ∧ ∀ xs, SqT K H a xs → xs[i]? = some x, fun i H => ∃ xs : List V, SqT K H a xs ∧ xs.length = i⟩
theorem turn_enumT {P : Program} {w : World} {K : PySem.W.Frag} {elts : List Expr} {kk : Nat} {tpos : Pos} (a e it : Addr) (hia : a ≠ it) (hea : a ≠ e) :
    Turn P w K (.Tuple elts kk tpos) (IteT K a) [e, it] e (fun i h => (∃ old, IsEnum h e it ((i : Nat) : Int) old) ∧ h.IsTupleIter it a i ∧ e ≠ it) where
  mem := by simp
  obj := fun i h st b hb => by
    obtain ⟨⟨old, he⟩, ⟨o, ho, hc, hd⟩, _⟩ := st
    have e' : b = e ∨ b = it := by simpa using hb
    rcases e' with z | z
    · rw [z]; exact ⟨_, he, fun v q => nomatch q⟩
    · rw [z]; exact ⟨o, ho, fun v q => by rw [hd] at q; cases q⟩
  keep := fun i h h' st k => let ⟨⟨old, he⟩, hi, hne⟩ := st; ⟨⟨old, k e (by simp) _ he⟩, hi.at fun o q => k it (by simp) o q, hne⟩
  item := by
    intro X hP hw hK hc i pins s σ H E I hf st hg
    subst hP hw hK
    obtain ⟨⟨old, he⟩, hit, hne⟩ := st
    obtain ⟨xs, x, hq, hx⟩ := hg
    obtain ⟨its, rv, p, hz⟩ := I.tuple hq
    obtain ⟨u, hu, ru⟩ := rv.get hx
    have hel : e < s.heap.objs.size := Heap.lt_size he
    have hil : it < s.heap.objs.size := by obtain ⟨_, q, _⟩ := hit; exact Heap.lt_size q
    have D := Draws.tuple (prog := X.prog) (w := X.w) (A := X.A.in1) (show X.A.in1.handled = none from I.ok.hd hc) it a hia its.toArray
    have hlt : i < its.toArray.size := by
      have := (List.getElem?_eq_some_iff.mp hu).1
      simpa using this
    refine PySem.wpAny_pyNext_enum_itemD D he ⟨hit, p⟩ hlt hne (by simp; exact ⟨hne, fun z => hea z.symm⟩) fun x' h' tk hP ho hit' hT hsz hk => ?_
    obtain rfl : x' = u := by
      have h1 : its.toArray[i]? = some x' := hP
      have h2 : its.toArray[i]? = some u := by simpa using hu
      rw [h1] at h2; exact Option.some.inj h2
    refine ⟨_, rfl, wpAny_letOwnedTupleGo_enum (s := { s with heap := h', toks := tk + 1 }) ho fun h'' he' sb => ?_⟩
    have hT2 : h''.get? s.heap.objs.size = some { cls := .type "tuple", data := .seq #[.int i tk, x'] } := (sb.2 _ (Nat.ne_of_gt hel)).trans hT
    have new : ObjOk X.prog X.w (upd H s.heap.objs.size (.tup [.int (i : Nat), x])) h'' s.heap.objs.size (.tup [.int (i : Nat), x]) :=
      ⟨by show 2 ≤ sizeLine; decide, [.int i tk, x'], .cons ⟨_, rfl⟩ (.cons ru .nil), ⟨_, hT2, rfl, _, rfl⟩⟩
    have I1 : Inv X pins σ (upd H s.heap.objs.size (.tup [.int (i : Nat), x])) { s with heap := h'', toks := tk + 1 } :=
      I.turnedNew (ch := [e, it]) (fun b ob hb q => (sb.2 b (fun z => hb (by simp [z]))).trans (hk b ob (fun z => hb (by simp [z])) (fun z => hb (by simp [z])) q)) hf (Nat.le_refl _) new
    refine ⟨.ref s.heap.objs.size, _, I1, rfl, ⟨_, x, rfl, I.hok.fresh (Nat.le_refl _), rfl, fun ys hy => by rw [I.tuple_inj hy hq]; exact hx⟩, ⟨⟨x', ?_⟩, hit'.1.at fun o q => (sb.2 it (Ne.symm hne)).trans q, hne⟩, fun b hb => ?_⟩
    · have e1 : ((i + 1 : Nat) : Int) = (i : Int) + 1 := by omega
      rw [e1]; exact he'
    · have hb' : b < s.heap.objs.size := by
        have e' : b = e ∨ b = it := by simpa using hb
        rcases e' with z | z
        · rw [z]; exact hel
        · rw [z]; exact hil
      rw [upd_ne (Nat.ne_of_lt hb')]
      exact (hf b hb).1
  done := by
    intro X hP hw hK hc i pins s σ H E I hf st hg
    subst hP hw hK
    obtain ⟨⟨old, he⟩, hit, hne⟩ := st
    obtain ⟨xs, hq, hx⟩ := hg
    obtain ⟨its, rv, p, hz⟩ := I.tuple hq
    obtain ⟨f0, f1, f2, f3, f4, f5⟩ := hf it (by simp)
    have hl := rv.length
    have hi : i = its.toArray.size := by rw [List.size_toArray]; omega
    subst hi
    have D := Draws.tuple (prog := X.prog) (w := X.w) (A := X.A.in1) (show X.A.in1.handled = none from I.ok.hd hc) it a hia its.toArray
    exact PySem.wpAny_pyNext_enum_endD D he ⟨hit, p⟩ fun h' eb => ⟨rfl, I.turned (t' := s.toks) (fun b o hb q => eb b o hb q) f0 f1 f3 f4 f5⟩
  self := fun A i s Q E st h => let ⟨⟨_, he⟩, _⟩ := st; wpAny_pyIter_enum he h
/-- enumerate(x), x a list or a tuple -/
def iEnumA (K : PySem.W.Frag) (te : TE) : TI := fun σ H R => te σ H fun x H1 => ∃ a xs, x = .ref a ∧ ((SqL K H1 a xs ∧ R (Ite K a) H1) ∨ (SqT K H1 a xs ∧ R (IteT K a) H1))
theorem pi_enumA {X : Cx} {e : Expr} {te : TE} {p pos tpos : Pos} {elts : List Expr} {kk : Nat} (hg : Gl X "enumerate") (hm : X.mg "enumerate" = none) (he : PE X e te) (hs : starEach [e] X.env = [(false, eval e X.env)]) :
    PI X (.Tuple elts kk tpos) (.Call (.Name "enumerate" p) [e] [] pos) (iEnumA X.K te) := by
  have ha : PA X [e] (tCons te tNil) := pa_cons he pa_nil (by rw [hs]; rfl)
  refine ⟨fun pins s σ H R I h => ?_⟩
  refine Call_ (ld_blt I hg hm boot_enumerate (PyProof.Rows.callWith_type1 (thn (ha.run pos pins s σ H (fun vs H1 => ∃ a xs, vs = [.ref a] ∧ ((SqL X.K H1 a xs ∧ R (Ite X.K a) H1) ∨ (SqT X.K H1 a xs ∧ R (IteT X.K a) H1))) I ?_) fun us s1 ⟨vs, H1, I1, r1, q1⟩ => ?_) hs rfl))
  · have h' : te σ H fun x H1 => ∃ a xs, x = .ref a ∧ ((SqL X.K H1 a xs ∧ R (Ite X.K a) H1) ∨ (SqT X.K H1 a xs ∧ R (IteT X.K a) H1)) := h
    show te σ H fun x H1 => ∃ a xs, [x] = [V.ref a] ∧ _
    have e : (fun x H1 => ∃ a xs, [x] = [V.ref a] ∧ ((SqL X.K H1 a xs ∧ R (Ite X.K a) H1) ∨ (SqT X.K H1 a xs ∧ R (IteT X.K a) H1))) = fun x H1 => ∃ a xs, x = .ref a ∧ ((SqL X.K H1 a xs ∧ R (Ite X.K a) H1) ∨ (SqT X.K H1 a xs ∧ R (IteT X.K a) H1)) := by
      funext x H1
      simp
    rw [e]
    exact h'
  obtain ⟨a, xs, ex, q⟩ := q1
  subst ex
  cases r1 with
  | cons r rr =>
    cases rr
    cases r
    rcases q with ⟨hq, q⟩ | ⟨hq, q⟩
    · obtain ⟨its, rv, p', hz⟩ := I1.list hq
      refine call_enumerate_list p'.isList fun h' he hit hsz hk => wpAny_pyIter_enum he ?_
      have I2 : Inv X pins σ H1 { s1 with heap := h' } := I1.kept (t' := s1.toks) hk
      refine ⟨s1.heap.objs.size + 1, [s1.heap.objs.size + 1, s1.heap.objs.size], _, _, H1, rfl, I2, turn_enum a (s1.heap.objs.size + 1) s1.heap.objs.size, ⟨⟨.none, he⟩, hit, Nat.succ_ne_self _⟩, fun b hb => ?_, q⟩
      have e' : b = s1.heap.objs.size + 1 ∨ b = s1.heap.objs.size := by simpa using hb
      have hle : s1.heap.objs.size ≤ b := by
        rcases e' with z | z
        · rw [z]; exact Nat.le_add_right _ _
        · rw [z]; exact Nat.le_refl _
      exact I1.fpOk hle (I1.hok.fresh hle)
    · obtain ⟨its, rv, p', hz⟩ := I1.tuple hq
      have hlt : a < s1.heap.objs.size := by obtain ⟨_, q, _⟩ := p'; exact Heap.lt_size q
      refine enum_begins1 (begins_tuple a its.toArray) p' fun h' he hit hsz hk => wpAny_pyIter_enum he ?_
      have I2 : Inv X pins σ H1 { s1 with heap := h' } := I1.kept (t' := s1.toks) hk
      refine ⟨s1.heap.objs.size + 1, [s1.heap.objs.size + 1, s1.heap.objs.size], _, _, H1, rfl, I2, turn_enumT a (s1.heap.objs.size + 1) s1.heap.objs.size (Nat.ne_of_lt hlt) (Nat.ne_of_lt (Nat.lt_succ_of_lt hlt)), ⟨⟨.none, he⟩, ⟨_, hit, rfl, rfl⟩, Nat.succ_ne_self _⟩, fun b hb => ?_, q⟩
      have e' : b = s1.heap.objs.size + 1 ∨ b = s1.heap.objs.size := by simpa using hb
      have hle : s1.heap.objs.size ≤ b := by
        rcases e' with z | z
        · rw [z]; exact Nat.le_add_right _ _
        · rw [z]; exact Nat.le_refl _
      exact I1.fpOk hle (I1.hok.fresh hle)
end OE

/-! Oe11: what is walked, further. -/
namespace OE
open PySem PySem.Spec PyProof.Rows L2

section
variable {X : Cx} {K : PySem.W.Frag} {Γ : Fns} {ios : List Nat} {a b c x y z : Expr} {pos p1 p2 p3 p apos : Pos} {ea eb ec e : E} {es : Es} {xs rest : List Expr} {k : Nat} {T : List FI} {n : Str}
variable {F : Addr → Prop} {H H' : Hp} {env : List D} {σ : L2.St} {O : List Addr} {v : V} {d : D} {as : As}

/-! things that are looked at, the source kept whole -/
theorem RepL.allNil {A : Addr → Prop} {ds : List D} {vs : List V} (r : RepL K A H ds vs O) (h : ds.all noOwn = true) {j : Nat} {d : D} (hj : ds[j]? = some d) : ∃ v, vs[j]? = some v ∧ Rep K A H d v [] := by
  obtain ⟨v, Oj, h1, h2, h3⟩ := RepL.at r hj
  obtain rfl := Rep.nil d h2 (List.all_eq_true.mp h d (List.mem_of_getElem? hj))
  exact ⟨v, h1, h2⟩
theorem St.peek {o : Bool} {ds R : List D} {rv : List (Option V)} {w : V} {j : Nat} (st : St K F H (.lst o ds :: R) (some w :: rv) O) (h : ds.all noOwn = true) (hj : ds[j]? = some d) :
    ∃ q vs v, w = .ref q ∧ H q = some (.lst vs) ∧ vs.length = ds.length ∧ vs[j]? = some v ∧ St K F H (d :: .lst o ds :: R) (some v :: some w :: rv) O := by
  obtain ⟨nd, nf, fh, ov, σ', O1, O2, e1, rfl, r1, r2⟩ := id st
  obtain ⟨rfl, rfl⟩ : some w = ov ∧ rv = σ' := by simpa using e1
  obtain ⟨u, e2, r1⟩ := r1.val (by simp)
  cases e2
  obtain ⟨q, vs, Oi, rfl, hq, hl, r, _⟩ := Rep.seq r1
  obtain ⟨v, h1, h2⟩ := RepL.allNil r h hj
  exact ⟨q, vs, v, rfl, hq, RepL.len r, h1, St.pushRep (A := fun _ => False) st h2⟩
theorem St.peekT {ds R : List D} {rv : List (Option V)} {w : V} {j : Nat} (st : St K F H (.tup ds :: R) (some w :: rv) O) (h : ds.all noOwn = true) (hj : ds[j]? = some d) :
    ∃ q vs v, w = .ref q ∧ SqT K H q vs ∧ vs.length = ds.length ∧ vs[j]? = some v ∧ St K F H (d :: .tup ds :: R) (some v :: some w :: rv) O := by
  obtain ⟨nd, nf, fh, ov, σ', O1, O2, e1, rfl, r1, r2⟩ := id st
  obtain ⟨rfl, rfl⟩ : some w = ov ∧ rv = σ' := by simpa using e1
  obtain ⟨u, e2, r1⟩ := r1.val (by simp)
  cases e2
  obtain ⟨q, vs, rfl, hq, hl, r⟩ := Rep.tupE r1
  obtain ⟨v, h1, h2⟩ := RepL.allNil r h hj
  exact ⟨q, vs, v, rfl, hq, RepL.len r, h1, St.pushRep (A := fun _ => False) st h2⟩
theorem iter_lstB {o : Bool} {ds : List D} {q : Addr} (hl : ds.length ≤ sizeLine) (ha : ds.all noOwn = true) : Iter K (Itl K q) ds (fun _ => [.lst o ds]) [some (.ref q)] where
  len := fun _ => rfl
  go := fun i F H R rv O d h st => by
    obtain ⟨q', vs, v, e, hq, hlv, hv, st2⟩ := St.peek st ha h
    cases e
    refine ⟨⟨vs, v, .inl (.inl hq), hv⟩, fun x H' ⟨e1, e2⟩ => ?_⟩
    subst e1
    have := e2 vs (.inl (.inl hq))
    rw [hv] at this; cases this
    exact ⟨O, Ext.refl, st2⟩
  stop := fun F H R rv O st => by
    obtain ⟨q', vs, e, hq, hlv, _⟩ := St.topL st
    cases e
    exact ⟨vs, .inl (.inl hq), by rw [hlv]; exact Nat.le_refl _⟩
  most := hl
theorem iter_tupB {ds : List D} {q : Addr} (hl : ds.length ≤ sizeLine) (ha : ds.all noOwn = true) : Iter K (Itt K q) ds (fun _ => [.tup ds]) [some (.ref q)] where
  len := fun _ => rfl
  go := fun i F H R rv O d h st => by
    obtain ⟨q', vs, v, e, hq, hlv, hv, st2⟩ := St.peekT st ha h
    cases e
    refine ⟨⟨vs, v, hq, hv⟩, fun x H' ⟨e1, e2⟩ => ?_⟩
    subst e1
    have := e2 vs hq
    rw [hv] at this; cases this
    exact ⟨O, Ext.refl, st2⟩
  stop := fun F H R rv O st => by
    obtain ⟨q', vs, e, hq, hlv, _⟩ := St.topT st
    cases e
    exact ⟨vs, hq, by rw [hlv]; exact Nat.le_refl _⟩
  most := hl
theorem iter_rev {o : Bool} {ds : List D} {q : Addr} (hl : ds.length ≤ sizeLine) (ha : ds.all noOwn = true) : Iter K (Itv K q ds.length) ds.reverse (fun _ => [.lst o ds]) [some (.ref q)] where
  len := fun _ => rfl
  go := fun i F H R rv O d h st => by
    have hi : i < ds.length := by simpa using (List.getElem?_eq_some_iff.mp h).1
    rw [List.getElem?_reverse hi] at h
    obtain ⟨q', vs, v, e, hq, hlv, hv, st2⟩ := St.peek st ha h
    cases e
    refine ⟨⟨hi, vs, v, .inl (.inl hq), hv⟩, fun x H' ⟨e1, e2⟩ => ?_⟩
    subst e1
    have := e2 vs (.inl (.inl hq))
    rw [hv] at this; cases this
    exact ⟨O, Ext.refl, st2⟩
  stop := fun F H R rv O st => by rw [List.length_reverse]; exact Nat.le_refl _
  most := by rw [List.length_reverse]; exact hl
/-! pairs of place and thing -/
theorem enumD_len (ds : List D) : (enumD ds).length = ds.length := by simp [enumD]
theorem enumD_at {ds : List D} {i : Nat} {d : D} (h : (enumD ds)[i]? = some d) : ∃ e, ds[i]? = some e ∧ d = .tup [.int (i : Nat), e] := by
  unfold enumD at h
  rw [List.getElem?_map, Option.map_eq_some_iff] at h
  obtain ⟨p, h1, h2⟩ := h
  rw [List.getElem?_zipIdx, Option.map_eq_some_iff] at h1
  obtain ⟨e, h3, h4⟩ := h1
  subst h4
  exact ⟨e, h3, by rw [← h2]; simp⟩
theorem St.mkPair {R : List D} {rv : List (Option V)} {i : Int} {T : Addr} (st : St K F H (d :: R) (some v :: rv) O) (hT : H T = none) :
    ∃ O', Ext O H O' (upd H T (.tup [.int i, v])) ∧ St K F (upd H T (.tup [.int i, v])) (.tup [.int i, d] :: R) (some (.ref T) :: rv) O' := by
  obtain ⟨OP, OR, rfl, st2, back⟩ := St.head (P := [d]) (pv := [some v]) st rfl
  have r2 : RepL K (fun a => (F a ∨ a ∈ OR) ∨ a ∈ OP) H [.int i, d] [.int i, v] OP := by
    simp only [RepL, Rep.RepL]
    exact ⟨.int i, [v], [], OP, rfl, by simp, by simp [Rep], v, [], OP, [], rfl, by simp, st2.rep1, rfl, rfl⟩
  obtain ⟨ex3, st3⟩ := st2.mkT r2 st2.nd (fun _ h => h) (by show 2 ≤ sizeLine; decide) hT
  obtain ⟨ex4, st4⟩ := back _ _ _ _ ex3 st3
  exact ⟨_, ex4, st4⟩
theorem iter_enumL {o : Bool} {ds : List D} {q : Addr} (hl : ds.length ≤ sizeLine) : Iter K (Ite K q) (enumD ds) (fun i => [.lst o (holes i ds)]) [some (.ref q)] where
  len := fun _ => rfl
  go := fun i F H R rv O d h st => by
    obtain ⟨e, h0, rfl⟩ := enumD_at h
    obtain ⟨h1, h2⟩ := holes_at h0
    obtain ⟨q', vs, e0, hq, hlv, _⟩ := St.topL st
    cases e0
    rw [h1] at st
    obtain ⟨v, hv, O', sub, st2⟩ := St.outL st hq
    refine ⟨⟨vs, v, .inl (.inl hq), hv⟩, fun x H' ⟨T, y, e1, e2, e3, e4⟩ => ?_⟩
    subst e1 e3
    have := e4 vs (.inl (.inl hq))
    rw [hv] at this; cases this
    obtain ⟨O3, ex3, st3⟩ := St.mkPair (i := (i : Nat)) st2 e2
    rw [h2]
    exact ⟨O3, (Ext.refl.less sub).trans ex3, st3⟩
  stop := fun F H R rv O st => by
    obtain ⟨q', vs, e, hq, hlv, _⟩ := St.topL st
    cases e
    refine ⟨vs, .inl (.inl hq), ?_⟩
    rw [hlv, enumD_len, holes_len (Nat.le_refl _)]
    exact Nat.le_refl _
  most := by rw [enumD_len]; exact hl
theorem iter_enumT {ds : List D} {q : Addr} (hl : ds.length ≤ sizeLine) : Iter K (IteT K q) (enumD ds) (fun i => [.tup (holes i ds)]) [some (.ref q)] where
  len := fun _ => rfl
  go := fun i F H R rv O d h st => by
    obtain ⟨e, h0, rfl⟩ := enumD_at h
    obtain ⟨h1, h2⟩ := holes_at h0
    rw [h1] at st
    obtain ⟨q', vs, v, e0, hq, hv, O', sub, st2⟩ := St.outT st
    cases e0
    refine ⟨⟨vs, v, hq, hv⟩, fun x H' ⟨T, y, e1, e2, e3, e4⟩ => ?_⟩
    subst e1 e3
    have := e4 vs hq
    rw [hv] at this; cases this
    obtain ⟨O3, ex3, st3⟩ := St.mkPair (i := (i : Nat)) st2 e2
    rw [h2]
    exact ⟨O3, (Ext.refl.less sub).trans ex3, st3⟩
  stop := fun F H R rv O st => by
    obtain ⟨q', vs, e, hq, hlv, _⟩ := St.topT st
    cases e
    refine ⟨vs, hq, ?_⟩
    rw [hlv, enumD_len, holes_len (Nat.le_refl _)]
  most := by rw [enumD_len]; exact hl
theorem iter_enumLB {o : Bool} {ds : List D} {q : Addr} (hl : ds.length ≤ sizeLine) (ha : ds.all noOwn = true) : Iter K (Ite K q) (enumD ds) (fun _ => [.lst o ds]) [some (.ref q)] where
  len := fun _ => rfl
  go := fun i F H R rv O d h st => by
    obtain ⟨e, h0, rfl⟩ := enumD_at h
    obtain ⟨q', vs, v, e0, hq, hlv, hv, st2⟩ := St.peek st ha h0
    cases e0
    refine ⟨⟨vs, v, .inl (.inl hq), hv⟩, fun x H' ⟨T, y, e1, e2, e3, e4⟩ => ?_⟩
    subst e1 e3
    have := e4 vs (.inl (.inl hq))
    rw [hv] at this; cases this
    obtain ⟨O3, ex3, st3⟩ := St.mkPair (i := (i : Nat)) st2 e2
    exact ⟨O3, ex3, st3⟩
  stop := fun F H R rv O st => by
    obtain ⟨q', vs, e, hq, hlv, _⟩ := St.topL st
    cases e
    exact ⟨vs, .inl (.inl hq), by rw [hlv, enumD_len]; exact Nat.le_refl _⟩
  most := by rw [enumD_len]; exact hl
theorem iter_enumTB {ds : List D} {q : Addr} (hl : ds.length ≤ sizeLine) (ha : ds.all noOwn = true) : Iter K (IteT K q) (enumD ds) (fun _ => [.tup ds]) [some (.ref q)] where
  len := fun _ => rfl
  go := fun i F H R rv O d h st => by
    obtain ⟨e, h0, rfl⟩ := enumD_at h
    obtain ⟨q', vs, v, e0, hq, hlv, hv, st2⟩ := St.peekT st ha h0
    cases e0
    refine ⟨⟨vs, v, hq, hv⟩, fun x H' ⟨T, y, e1, e2, e3, e4⟩ => ?_⟩
    subst e1 e3
    have := e4 vs hq
    rw [hv] at this; cases this
    obtain ⟨O3, ex3, st3⟩ := St.mkPair (i := (i : Nat)) st2 e2
    exact ⟨O3, ex3, st3⟩
  stop := fun F H R rv O st => by
    obtain ⟨q', vs, e, hq, hlv, _⟩ := St.topT st
    cases e
    exact ⟨vs, hq, by rw [hlv, enumD_len]⟩
  most := by rw [enumD_len]; exact hl
/-- the source was in a slot: it is put back there -/
theorem back_slot {i : Nat} {w : V} {m : Nat} (hv : σ[i]? = some (some w)) : Back K σ m (fun _ => [d]) [some w] (some (i, d)) := by
  intro F H env σ' O j _ hs hl hl2 st
  have h := hs i (by simp [putI])
  have st' : St K F H (d :: env) (some w :: σ') O := st
  obtain ⟨O', sub, st2⟩ := St.lay' (i := i) st' (by rw [h]; exact hv) (by rw [hl, hl2]; exact (List.getElem?_eq_some_iff.mp hv).1)
  exact ⟨O', sub, st2⟩
theorem pi_bor {tg : Expr} {i : Nat} (hn : nameB X.N X.env.scope i x = true) : PI X tg x (tI X.K (evI Γ ios (.bor i))) := by
  refine (pi_seqD (pe_nameB hn)).imp fun σ H Q q => ?_
  obtain ⟨F, env, O, items, env1, r, st, e, post⟩ := q
  simp only [evI] at e
  rw [Option.bind_eq_some_iff] at e; obtain ⟨d, e1, e⟩ := e
  rw [Option.bind_eq_some_iff] at e; obtain ⟨xs, e2, e⟩ := e
  simp only [Option.ite_none_right_eq_some, Option.some.injEq, Prod.mk.injEq] at e
  obtain ⟨ha, rfl, rfl, rfl⟩ := e
  obtain ⟨w, hw, O1, pm, st1⟩ := st.take e1
  refine ⟨w, hw, ?_⟩
  cases d <;> simp only [seqD, reduceCtorEq, Option.some.injEq] at e2 <;> subst e2
  · obtain ⟨q, vs, rfl, ht, hlv, hl⟩ := St.topT st1
    exact ⟨q, rfl, .inr ⟨⟨vs, ht⟩, post _ _ _ H O1 (Ext.refl.perm pm) (iter_tupB hl ha) (back_slot hw) st1⟩⟩
  · obtain ⟨q, vs, rfl, ht, hlv, hl⟩ := St.topL st1
    exact ⟨q, rfl, .inl ⟨⟨vs, .inl (.inl ht)⟩, post _ _ _ H O1 (Ext.refl.perm pm) (iter_lstB hl ha) (back_slot hw) st1⟩⟩
theorem pi_enum1 {elts : List Expr} {kk : Nat} {tpos : Pos} (hm : X.mg "enumerate" = none) (hg : glB X.env.scope "enumerate" = true) (ha : PE X a (tE X.K (ev Γ ios ea))) (hp : plainX a = true) :
    PI X (.Tuple elts kk tpos) (.Call (.Name "enumerate" p) [a] [] pos) (tI X.K (evI Γ ios (.enum ea))) := by
  obtain ⟨h1, h2, h3⟩ := glB_ok hg
  refine (pi_enumA h1 hm ha (by rw [star_plain hp]; rfl)).imp fun σ H Q q => ?_
  obtain ⟨F, env, O, items, env1, r, st, e, post⟩ := q
  simp only [evI] at e
  rw [Option.bind_eq_some_iff] at e; obtain ⟨⟨d1, env2⟩, e1, e⟩ := e
  rw [Option.map_eq_some_iff] at e; obtain ⟨xs, e2, e⟩ := e
  simp only [Prod.mk.injEq] at e
  obtain ⟨rfl, rfl, rfl⟩ := e
  refine ⟨F, env, O, _, _, st, e1, fun x H1 O1 ex1 st1 => ?_⟩
  cases d1 <;> simp only [seqD, reduceCtorEq, Option.some.injEq] at e2 <;> subst e2
  · obtain ⟨q, vs, rfl, ht, hlv, hl⟩ := St.topT st1
    exact ⟨q, vs, rfl, .inr ⟨ht, post _ _ _ H1 O1 ex1 (iter_enumT hl) (back_none fun _ => rfl) (by simpa [holes_zero] using st1)⟩⟩
  · obtain ⟨q, vs, rfl, ht, hlv, hl⟩ := St.topL st1
    exact ⟨q, vs, rfl, .inl ⟨.inl (.inl ht), post _ _ _ H1 O1 ex1 (iter_enumL hl) (back_none fun _ => rfl) (by simpa [holes_zero] using st1)⟩⟩
theorem pi_enumB {elts : List Expr} {kk : Nat} {tpos : Pos} {i : Nat} (hm : X.mg "enumerate" = none) (hg : glB X.env.scope "enumerate" = true) (hn : nameB X.N X.env.scope i a = true) (hp : plainX a = true) :
    PI X (.Tuple elts kk tpos) (.Call (.Name "enumerate" p) [a] [] pos) (tI X.K (evI Γ ios (.enumB i))) := by
  obtain ⟨h1, h2, h3⟩ := glB_ok hg
  refine (pi_enumA h1 hm (pe_nameB hn) (by rw [star_plain hp]; rfl)).imp fun σ H Q q => ?_
  obtain ⟨F, env, O, items, env1, r, st, e, post⟩ := q
  simp only [evI] at e
  rw [Option.bind_eq_some_iff] at e; obtain ⟨d, e1, e⟩ := e
  rw [Option.bind_eq_some_iff] at e; obtain ⟨xs, e2, e⟩ := e
  simp only [Option.ite_none_right_eq_some, Option.some.injEq, Prod.mk.injEq] at e
  obtain ⟨ha, rfl, rfl, rfl⟩ := e
  obtain ⟨w, hw, O1, pm, st1⟩ := st.take e1
  refine ⟨w, hw, ?_⟩
  cases d <;> simp only [seqD, reduceCtorEq, Option.some.injEq] at e2 <;> subst e2
  · obtain ⟨q, vs, rfl, ht, hlv, hl⟩ := St.topT st1
    exact ⟨q, vs, rfl, .inr ⟨ht, post _ _ _ H O1 (Ext.refl.perm pm) (iter_enumTB hl ha) (by rw [enumD_len]; exact back_slot hw) st1⟩⟩
  · obtain ⟨q, vs, rfl, ht, hlv, hl⟩ := St.topL st1
    exact ⟨q, vs, rfl, .inl ⟨.inl (.inl ht), post _ _ _ H O1 (Ext.refl.perm pm) (iter_enumLB hl ha) (by rw [enumD_len]; exact back_slot hw) st1⟩⟩
theorem pi_revD {tg : Expr} (hm : X.mg "reversed" = none) (hg : glB X.env.scope "reversed" = true) (ha : PE X a (tE X.K (ev Γ ios ea))) (hp : plainX a = true) :
    PI X tg (.Call (.Name "reversed" p) [a] [] pos) (tI X.K (evI Γ ios (.rev ea))) := by
  obtain ⟨h1, h2, h3⟩ := glB_ok hg
  refine (RT.pi_revA h1 hm ha (star_plain hp _ _)).imp fun σ H Q q => ?_
  obtain ⟨F, env, O, items, env1, r, st, e, post⟩ := q
  simp only [evI] at e
  rw [Option.bind_eq_some_iff] at e; obtain ⟨⟨d1, env2⟩, e1, e⟩ := e
  rw [Option.bind_eq_some_iff] at e; obtain ⟨xs, e2, e⟩ := e
  simp only [Option.ite_none_right_eq_some, Option.some.injEq, Prod.mk.injEq] at e
  obtain ⟨hall, rfl, rfl, rfl⟩ := e
  refine ⟨F, env, O, _, _, st, e1, fun x H1 O1 ex1 st1 => ?_⟩
  cases d1 <;> simp only [lstD, reduceCtorEq, Option.some.injEq] at e2 <;> subst e2
  obtain ⟨q, vs, rfl, ht, hlv, hl⟩ := St.topL st1
  refine ⟨q, vs, rfl, .inl ⟨.inl (.inl ht), ?_⟩⟩
  rw [hlv]
  exact post _ _ _ H1 O1 ex1 (iter_rev hl hall) (back_none fun _ => rfl) st1
end
end OE

/-! Oe12: targets, masks, comprehensions. -/
namespace OE
open PySem PySem.Spec PyProof.Rows L2

section
variable {X : Cx} {K : PySem.W.Frag} {Γ : Fns} {ios : List Nat} {a b c x y z : Expr} {pos p1 p2 p3 p apos : Pos} {ea eb ec e : E} {es : Es} {xs rest : List Expr} {k : Nat} {T : List FI} {n : Str}
variable {F : Addr → Prop} {H H' : Hp} {env : List D} {σ : L2.St} {O : List Addr} {v : V} {d : D} {as : As}

/-! targets -/
def tgS : Tg → List Nat
  | .nm i => [i]
  | .tp is => is
/-- the slots in ios and those that are no target's stand -/
def SameS (is : List Nat) (σ σ' : L2.St) : Prop := σ'.length = σ.length ∧ ∀ j, j ∉ is → σ'[j]? = σ[j]?
theorem SameS.refl {is : List Nat} : SameS is σ σ := ⟨rfl, fun _ _ => rfl⟩
theorem SameS.trans {is : List Nat} {σ1 σ2 : L2.St} (a : SameS is σ σ1) (b : SameS is σ1 σ2) : SameS is σ σ2 := ⟨b.1.trans a.1, fun j h => (b.2 j h).trans (a.2 j h)⟩
theorem SameS.set {i : Nat} {o : Option V} : SameS [i] σ (σ.set i o) := ⟨List.length_set, fun j h => List.getElem?_set_ne (fun e => h (by simp [e]))⟩
theorem SameS.mono {is js : List Nat} {σ1 : L2.St} (a : SameS is σ σ1) (h : ∀ j ∈ is, j ∈ js) : SameS js σ σ1 := ⟨a.1, fun j hj => a.2 j fun z => hj (h j z)⟩
/-- a name stored -/
theorem St.store {i : Nat} (st : St K F H (d :: env) (some v :: σ) O) (hi : i < env.length) : ∃ O', (∀ a ∈ O', a ∈ O) ∧ St K F H (env.set i d) (σ.set i (some v)) O' := by
  obtain ⟨nd, nf, fh, ov, σ', O1, O2, e1, rfl, r1, r2⟩ := st
  obtain ⟨rfl, rfl⟩ : some v = ov ∧ σ = σ' := by simpa using e1
  obtain ⟨d0, hd0⟩ : ∃ d0, env[i]? = some d0 := ⟨env[i], List.getElem?_eq_getElem hi⟩
  obtain ⟨l, rr, sl, sr, ov, Ol, O3, Or, rfl, hl', rfl, hsl, rfl, q1, q2, q3⟩ := r2.at hd0
  have sub : ∀ a ∈ Ol ++ (O1 ++ Or), a ∈ O1 ++ (Ol ++ (O3 ++ Or)) := fun a ha => by
    simp only [List.mem_append] at ha ⊢
    rcases ha with h | h | h
    · exact .inr (.inl h)
    · exact .inl h
    · exact .inr (.inr (.inr h))
  have nd2 : (Ol ++ (O1 ++ Or)).Nodup := by
    have pm : (O1 ++ (Ol ++ (O3 ++ Or))).Perm (O3 ++ (Ol ++ (O1 ++ Or))) := by
      have a1 : (Ol ++ (O3 ++ Or)).Perm (O3 ++ (Ol ++ Or)) := by
        rw [← List.append_assoc, ← List.append_assoc]; exact List.Perm.append_right _ List.perm_append_comm
      have a2 : (O1 ++ (O3 ++ (Ol ++ Or))).Perm (O3 ++ (O1 ++ (Ol ++ Or))) := by
        rw [← List.append_assoc O1, ← List.append_assoc O3]; exact List.Perm.append_right _ List.perm_append_comm
      have a3 : (O1 ++ (Ol ++ Or)).Perm (Ol ++ (O1 ++ Or)) := by
        rw [← List.append_assoc, ← List.append_assoc]; exact List.Perm.append_right _ List.perm_append_comm
      exact (List.Perm.append_left _ a1).trans (a2.trans (List.Perm.append_left _ a3))
    exact (List.nodup_append.mp (pm.nodup_iff.mp nd)).2.1
  have e : (l ++ d0 :: rr).set i d = l ++ d :: rr := by
    rw [← hl', List.set_append_right _ _ (Nat.le_refl _)]; simp
  have e' : (sl ++ ov :: sr).set i (some v) = sl ++ some v :: sr := by
    rw [← hsl, List.set_append_right _ _ (Nat.le_refl _)]; simp
  rw [e, e']
  refine ⟨Ol ++ (O1 ++ Or), sub, nd2, fun a ha => nf a (sub a ha), fh, ?_⟩
  have mv : ∀ a, ¬ (F a ∨ a ∈ O1 ++ (Ol ++ (O3 ++ Or))) → H a ≠ none → ¬ (F a ∨ a ∈ Ol ++ (O1 ++ Or)) := fun a hn _ z => hn (z.imp_right (sub a))
  exact (q1.move (fun _ _ e _ => e) mv).append ⟨some v, sr, O1, Or, rfl, rfl, r1.move (fun _ _ e _ => e) mv, q3.move (fun _ _ e _ => e) mv⟩
def tG (K : PySem.W.Frag) (ios : List Nat) (tg : Tg) : TG := fun v σ H Q => ∃ F env O d env', St K F H (d :: env) (some v :: σ) O ∧ bindT ios tg d env = some env' ∧ (∀ i ∈ tgS tg, i < σ.length) ∧
  ∀ σ' O', (∀ a ∈ O', a ∈ O) → St K F H env' σ' O' → SameS (tgS tg) σ σ' → (∀ j ∈ ios, σ'[j]? = σ[j]?) → Q σ' H
def tGs (K : PySem.W.Frag) (ios : List Nat) (is : List Nat) : TGs := fun vs σ H Q => ∃ F env O ds env', St K F H (ds ++ env) (vs.map some ++ σ) O ∧ ds.length = vs.length ∧ bindMany ios is ds env = some env' ∧ (∀ i ∈ is, i < σ.length) ∧
  ∀ σ' O', (∀ a ∈ O', a ∈ O) → St K F H env' σ' O' → SameS is σ σ' → (∀ j ∈ ios, σ'[j]? = σ[j]?) → Q σ' H
def nameLB (N : List Str) (sc : Scope) (i : Nat) : Expr → Bool
  | .Name n _ => decide (N[i]? = some n) && locB sc n
  | _ => false
def namesLB (N : List Str) (sc : Scope) : List Nat → List Expr → Bool
  | [], [] => true
  | i :: is, x :: xs => nameLB N sc i x && namesLB N sc is xs
  | _, _ => false
def tgB (N : List Str) (sc : Scope) : Tg → Expr → Bool
  | .nm i, x => nameLB N sc i x
  | .tp is, .Tuple xs _ _ => namesLB N sc is xs
  | _, _ => false
theorem nameLB_lt {N : List Str} {sc : Scope} {i : Nat} (h : nameLB N sc i x = true) : i < N.length := by
  cases x <;> simp only [nameLB, Bool.and_eq_true, decide_eq_true_eq, Bool.false_eq_true] at h
  exact (List.getElem?_eq_some_iff.mp h.1).1
theorem namesLB_lt {N : List Str} {sc : Scope} : ∀ {is : List Nat} {xs : List Expr}, namesLB N sc is xs = true → ∀ i ∈ is, i < N.length
  | [], _, _ => fun _ h => nomatch h
  | i :: is, [], h => by simp [namesLB] at h
  | i :: is, x :: xs, h => by
    simp only [namesLB, Bool.and_eq_true] at h
    intro j hj
    rcases List.mem_cons.mp hj with rfl | hj
    · exact nameLB_lt h.1
    · exact namesLB_lt h.2 j hj
theorem tgB_lt {N : List Str} {sc : Scope} {tg : Tg} (h : tgB N sc tg x = true) : ∀ i ∈ tgS tg, i < N.length := by
  cases tg with
  | nm i => simp only [tgS, List.mem_singleton]; rintro j rfl; exact nameLB_lt h
  | tp is => cases x <;> simp only [tgB, Bool.false_eq_true] at h; exact namesLB_lt h
/-- how a name's cell may be: made at the entry, or a local -/
def FnName (X : Cx) (x : Expr) : Prop := ∀ n p, x = .Name n p → X.fn n = true ∨ X.env.scope.names.lookup n = some .local
theorem pg_nameB {i : Nat} (hN : X.N.Nodup) (h : nameLB X.N X.env.scope i x = true) (hf : FnName X x) : PG X x (gName i) := by
  cases x <;> simp only [nameLB, Bool.and_eq_true, decide_eq_true_eq, Bool.false_eq_true] at h
  exact pg_name hN h.1 (locB_ok h.2) (hf _ _ rfl)
theorem _root_.L2.PG.imp {X : Cx} {e : Expr} {t t' : TG} (h : PG X e t) (i : ∀ v σ H Q, t' v σ H Q → t v σ H Q) : PG X e t' := ⟨fun pins s σ H v u Q I r w => h.run pins s σ H v u Q I r (i v σ H Q w)⟩
theorem _root_.L2.PGs.imp {X : Cx} {e : List Expr} {t t' : TGs} (h : PGs X e t) (i : ∀ v σ H Q, t' v σ H Q → t v σ H Q) : PGs X e t' := ⟨fun pins s σ H v u Q I r w => h.run pins s σ H v u Q I r (i v σ H Q w)⟩
theorem assignEach_name {e : Expr} {es : List Expr} {i : Nat} {N : List Str} {sc : Scope} {env : Env} (h : nameLB N sc i e = true) : assignEach (e :: es) env = (false, assign e env) :: assignEach es env := by
  cases e <;> simp only [nameLB, Bool.false_eq_true] at h
  rfl
theorem pgs_names : ∀ {is : List Nat} {xs : List Expr}, X.N.Nodup → namesLB X.N X.env.scope is xs = true → (∀ x ∈ xs, FnName X x) → PGs X xs (tGs X.K ios is)
  | [], [], hN, h, hf => pgs_nil.imp fun vs σ H Q q => by
    obtain ⟨F, env, O, ds, env', st, hl, e, hlt, post⟩ := q
    cases ds with
    | nil =>
      simp only [bindMany, Option.some.injEq] at e
      subst e
      have hv : vs = [] := List.eq_nil_of_length_eq_zero hl.symm
      subst hv
      exact ⟨rfl, post σ O (fun _ h => h) st SameS.refl fun _ _ => rfl⟩
    | cons d ds => simp [bindMany] at e
  | [], _ :: _, hN, h, hf => by simp [namesLB] at h
  | _ :: _, [], hN, h, hf => by simp [namesLB] at h
  | i :: is, x :: xs, hN, h, hf => by
    simp only [namesLB, Bool.and_eq_true] at h
    have ih := pgs_names hN h.2 fun y hy => hf y (List.mem_cons_of_mem _ hy)
    refine (pgs_cons (pg_nameB hN h.1 (hf x List.mem_cons_self)) ih (by rw [assignEach_name h.1]; rfl)).imp fun vs σ H Q q => ?_
    obtain ⟨F, env, O, ds, env', st, hl, e, hlt, post⟩ := q
    cases ds with
    | nil => simp [bindMany] at e
    | cons d ds =>
      cases vs with
      | nil => simp at hl
      | cons v vs =>
        simp only [bindMany, Option.ite_none_left_eq_some] at e
        obtain ⟨hio, e⟩ := e
        refine ⟨v, vs, rfl, ?_⟩
        have hi : i < σ.length := hlt i List.mem_cons_self
        have hle : env.length = σ.length := by
          have := st.rep.len
          simp only [List.length_append, List.length_map, List.length_cons] at this hl
          omega
        have st' : St X.K F H (d :: (ds ++ env)) (some v :: (vs.map some ++ σ)) O := st
        obtain ⟨O1, sub1, st1⟩ := St.store (i := ds.length + i) st' (by simp; omega)
        have e1 : (ds ++ env).set (ds.length + i) d = ds ++ env.set i d := by
          rw [List.set_append_right _ _ (by omega)]; simp
        have e2 : (vs.map some ++ σ).set (ds.length + i) (some v) = vs.map some ++ σ.set i (some v) := by
          have h9 : ds.length = (vs.map some).length := by simpa using hl
          rw [h9, List.set_append_right _ _ (by omega)]; simp
        rw [e1, e2] at st1
        refine ⟨F, env.set i d, O1, ds, env', st1, by simpa using hl, e, fun j hj => by rw [List.length_set]; exact hlt j (List.mem_cons_of_mem _ hj), fun σ' O' sub st2 sm io => ?_⟩
        refine post σ' O' (fun a ha => sub1 a (sub a ha)) st2 ((SameS.set.mono fun j hj => ?_).trans (sm.mono fun j hj => List.mem_cons_of_mem _ hj)) fun j hj => ?_
        · rw [List.mem_singleton.mp hj]; exact List.mem_cons_self
        · rw [io j hj, List.getElem?_set_ne (fun (z : i = j) => hio (z ▸ hj))]
theorem pg_tgB {tg : Tg} (hN : X.N.Nodup) (hc : X.calm = true) (h : tgB X.N X.env.scope tg x = true) (hf : ∀ y n p, (y = x ∨ ∃ ys kk pp, x = .Tuple ys kk pp ∧ y ∈ ys) → y = .Name n p → X.fn n = true ∨ X.env.scope.names.lookup n = some .local) : PG X x (tG X.K ios tg) := by
  cases tg with
  | nm i =>
    refine (pg_nameB (i := i) hN h fun n p e => hf x n p (.inl rfl) e).imp fun v σ H Q q => ?_
    obtain ⟨F, env, O, d, env', st, e, hlt, post⟩ := q
    simp only [bindT, Option.ite_none_left_eq_some, Option.some.injEq] at e
    obtain ⟨hio, rfl⟩ := e
    have hle : env.length = σ.length := by
      have := st.rep.len
      simp only [List.length_cons] at this
      omega
    obtain ⟨O1, sub1, st1⟩ := St.store (i := i) st (by rw [hle]; exact hlt i (by simp [tgS]))
    exact post _ O1 sub1 st1 SameS.set fun j hj => List.getElem?_set_ne (fun (z : i = j) => hio (z ▸ hj))
  | tp is =>
    cases x <;> simp only [tgB, Bool.false_eq_true] at h
    rename_i xs kk pp
    have hlen : ∀ {is : List Nat} {xs : List Expr} {env : Env}, namesLB X.N X.env.scope is xs = true → (assignEach xs env).length = is.length ∧ (assignEach xs env).findIdx? (·.1) = none := by
      intro is xs env
      induction xs generalizing is with
      | nil => intro h; cases is with
        | nil => exact ⟨rfl, rfl⟩
        | cons _ _ => simp [namesLB] at h
      | cons x xs ih =>
        intro h
        cases is with
        | nil => simp [namesLB] at h
        | cons i is =>
          simp only [namesLB, Bool.and_eq_true] at h
          rw [assignEach_name h.1]
          obtain ⟨h1, h2⟩ := ih h.2
          exact ⟨by simp [h1], by rw [List.findIdx?_cons]; simp [h2]⟩
    refine (pg_tup hc (pgs_names (ios := ios) hN h fun y hy n p e => hf y n p (.inr ⟨xs, kk, pp, rfl, hy⟩) e) (hlen h).1 (hlen h).2).imp fun v σ H Q q => ?_
    obtain ⟨F, env, O, d, env', st, e, hlt, post⟩ := q
    simp only [bindT] at e
    cases d <;> simp only [reduceCtorEq] at e
    rename_i ds
    obtain ⟨nd, nf, fh, ov, σ', O1, O2, e1, rfl, r1, r2⟩ := id st
    obtain ⟨rfl, rfl⟩ : some v = ov ∧ σ = σ' := by simpa using e1
    obtain ⟨u, e2, r1⟩ := r1.val (by simp)
    cases e2
    obtain ⟨q, vs, rfl, ht, hl, r⟩ := Rep.tupE r1
    have hld : ds.length = vs.length := (RepL.len r).symm
    have hli : vs.length = is.length := by
      have : ∀ {is : List Nat} {ds : List D} {env env' : List D}, bindMany ios is ds env = some env' → ds.length = is.length := by
        intro is
        induction is with
        | nil => intro ds env env' e; cases ds <;> simp [bindMany] at e ⊢
        | cons i is ih => intro ds env env' e; cases ds <;> simp [bindMany] at e ⊢; exact ih e.2
      rw [← hld]; exact this e
    refine ⟨q, vs, rfl, ht, hli, F, env, _, ds, env', ?_, hld, e, hlt, post⟩
    exact ⟨nd, nf, fh, (RepL.toS r).append r2⟩

/-! masks: some slots set aside -/
def maskD (p : Nat → Bool) : Nat → List D → List D
  | _, [] => []
  | k, d :: ds => (if p k then .hole else d) :: maskD p (k + 1) ds
def maskO (p : Nat → Bool) : Nat → L2.St → L2.St
  | _, [] => []
  | k, o :: os => (if p k then none else o) :: maskO p (k + 1) os
def mixD (p : Nat → Bool) : Nat → List D → List D → List D
  | k, d :: ds, e :: es => (if p k then e else d) :: mixD p (k + 1) ds es
  | _, _, _ => []
theorem maskD_get (p : Nat → Bool) : ∀ (k : Nat) (ds : List D) (j : Nat), (maskD p k ds)[j]? = if p (k + j) then ds[j]?.map fun _ => D.hole else ds[j]?
  | k, [], j => by simp [maskD]
  | k, d :: ds, 0 => by by_cases h : p k <;> simp [maskD, h]
  | k, d :: ds, j + 1 => by
    simp only [maskD, List.getElem?_cons_succ]
    rw [maskD_get p (k + 1) ds j]
    have : k + 1 + j = k + (j + 1) := by omega
    rw [this]
theorem maskO_get (p : Nat → Bool) : ∀ (k : Nat) (ds : L2.St) (j : Nat), (maskO p k ds)[j]? = if p (k + j) then ds[j]?.map fun _ => none else ds[j]?
  | k, [], j => by simp [maskO]
  | k, d :: ds, 0 => by by_cases h : p k <;> simp [maskO, h]
  | k, d :: ds, j + 1 => by
    simp only [maskO, List.getElem?_cons_succ]
    rw [maskO_get p (k + 1) ds j]
    have : k + 1 + j = k + (j + 1) := by omega
    rw [this]
theorem mixD_get (p : Nat → Bool) : ∀ (k : Nat) (ds es : List D) (j : Nat), ds.length = es.length → (mixD p k ds es)[j]? = if p (k + j) then es[j]? else ds[j]?
  | k, [], [], j, h => by simp [mixD]
  | k, [], _ :: _, j, h => by simp at h
  | k, _ :: _, [], j, h => by simp at h
  | k, d :: ds, e :: es, 0, h => by by_cases h : p k <;> simp [mixD, h]
  | k, d :: ds, e :: es, j + 1, h => by
    simp only [mixD, List.getElem?_cons_succ]
    rw [mixD_get p (k + 1) ds es j (by simpa using h)]
    have : k + 1 + j = k + (j + 1) := by omega
    rw [this]
theorem wipeD_len (env : List D) (vs : List Nat) : (wipeD env vs).length = env.length := by
  induction vs with
  | nil => rfl
  | cons v vs ih => simp [wipeD, ih]
theorem wipeD_get : ∀ (vs : List Nat) (env : List D) (j : Nat), (wipeD env vs)[j]? = if j ∈ vs then env[j]?.map fun _ => D.hole else env[j]?
  | [], env, j => by simp [wipeD]
  | v :: vs, env, j => by
    simp only [wipeD]
    by_cases h : j = v
    · subst h
      rw [if_pos List.mem_cons_self]
      rw [List.getElem?_set]
      simp only [if_true]
      rw [wipeD_len]
      by_cases h2 : j < env.length
      · simp [h2]
      · simp [h2]
    · rw [List.getElem?_set_ne (fun e => h e.symm), wipeD_get vs env j]
      by_cases h3 : j ∈ vs
      · rw [if_pos h3, if_pos (List.mem_cons_of_mem _ h3)]
      · rw [if_neg h3, if_neg (by simp [h, h3])]
theorem wipeO_get : ∀ (vs : List Nat) (σ : L2.St) (j : Nat), (wipe σ vs)[j]? = if j ∈ vs then σ[j]?.map fun _ => none else σ[j]?
  | [], σ, j => by simp [wipe]
  | v :: vs, σ, j => by
    simp only [wipe]
    by_cases h : j = v
    · subst h
      rw [if_pos List.mem_cons_self]
      rw [List.getElem?_set]
      simp only [if_true]
      rw [wipe_length]
      by_cases h2 : j < σ.length
      · simp [h2]
      · simp [h2]
    · rw [List.getElem?_set_ne (fun e => h e.symm), wipeO_get vs σ j]
      by_cases h3 : j ∈ vs
      · rw [if_pos h3, if_pos (List.mem_cons_of_mem _ h3)]
      · rw [if_neg h3, if_neg (by simp [h, h3])]
theorem backD_len (env env0 : List D) (vs : List Nat) : (backD env env0 vs).length = env.length := by
  induction vs with
  | nil => rfl
  | cons v vs ih => simp only [backD]; split <;> simp [ih]
theorem backD_get (env env0 : List D) (hl : env.length = env0.length) : ∀ (vs : List Nat) (j : Nat), (backD env env0 vs)[j]? = if j ∈ vs then env0[j]? else env[j]?
  | [], j => by simp [backD]
  | v :: vs, j => by
    have ih := backD_get env env0 hl vs j
    simp only [backD]
    by_cases h : j = v
    · subst h
      rw [if_pos List.mem_cons_self]
      split
      · rename_i d hd
        have : j < env0.length := (List.getElem?_eq_some_iff.mp hd).1
        rw [List.getElem?_set]
        simp only [if_true]
        rw [backD_len, if_pos (by omega), hd]
      · rename_i hd
        rw [ih, hd]
        have : env0.length ≤ j := List.getElem?_eq_none_iff.mp hd
        split
        · rfl
        · exact List.getElem?_eq_none_iff.mpr (by omega)
    · have e : (if j ∈ v :: vs then env0[j]? else env[j]?) = if j ∈ vs then env0[j]? else env[j]? := by
        by_cases h3 : j ∈ vs
        · rw [if_pos h3, if_pos (List.mem_cons_of_mem _ h3)]
        · rw [if_neg h3, if_neg (by simp [h, h3])]
      rw [e, ← ih]
      split
      · rw [List.getElem?_set_ne (fun e => h e.symm)]
      · rfl
theorem wipeD_mask (env : List D) (vs : List Nat) : wipeD env vs = maskD (fun j => decide (j ∈ vs)) 0 env := by
  apply List.ext_getElem?
  intro j
  rw [wipeD_get, maskD_get, Nat.zero_add]
  by_cases h : j ∈ vs <;> simp [h]
theorem wipeO_mask (σ : L2.St) (vs : List Nat) : wipe σ vs = maskO (fun j => decide (j ∈ vs)) 0 σ := by
  apply List.ext_getElem?
  intro j
  rw [wipeO_get, maskO_get, Nat.zero_add]
  by_cases h : j ∈ vs <;> simp [h]
theorem backD_mix (env env0 : List D) (hl : env.length = env0.length) (vs : List Nat) : backD env env0 vs = mixD (fun j => decide (j ∈ vs)) 0 env env0 := by
  apply List.ext_getElem?
  intro j
  rw [backD_get env env0 hl, mixD_get _ _ _ _ _ hl, Nat.zero_add]
  by_cases h : j ∈ vs <;> simp [h]
theorem RepS.mask {A : Addr → Prop} (p : Nat → Bool) : ∀ {k : Nat} {env : List D} {σ : L2.St} {O : List Addr}, RepS K A H env σ O → ∃ O1 O2, (O1 ++ O2).Perm O ∧ RepS K A H (maskD p k env) (maskO p k σ) O1 ∧ RepS K A H (maskD (fun j => !p j) k env) σ O2
  | k, [], _, _, ⟨e1, e2⟩ => by subst e1 e2; exact ⟨[], [], List.Perm.refl _, ⟨rfl, rfl⟩, ⟨rfl, rfl⟩⟩
  | k, d :: ds, _, _, ⟨ov, σ', O1, O2, e1, e2, r1, r2⟩ => by
    subst e1 e2
    obtain ⟨P1, P2, pm, q1, q2⟩ := RepS.mask p (k := k + 1) r2
    simp only [maskD, maskO]
    by_cases h : p k
    · refine ⟨P1, O1 ++ P2, ?_, ⟨none, _, [], P1, by simp [h], rfl, .inl ⟨by simp [h], rfl⟩, q1⟩, ⟨ov, _, O1, P2, rfl, rfl, by simpa [h] using r1, q2⟩⟩
      have a1 : (P1 ++ (O1 ++ P2)).Perm (O1 ++ (P1 ++ P2)) := by
        rw [← List.append_assoc, ← List.append_assoc]; exact List.Perm.append_right _ List.perm_append_comm
      exact a1.trans (List.Perm.append_left _ pm)
    · refine ⟨O1 ++ P1, P2, by rw [List.append_assoc]; exact List.Perm.append_left _ pm, ⟨ov, _, O1, P1, by simp [h], rfl, by simpa [h] using r1, q1⟩, ⟨ov, _, [], P2, rfl, rfl, .inl ⟨by simp [h], rfl⟩, q2⟩⟩
theorem RepS.mix {A : Addr → Prop} (p : Nat → Bool) : ∀ {k : Nat} {env env0 : List D} {σ : L2.St} {O1 O2 : List Addr}, RepS K A H env (maskO p k σ) O1 → (∀ j, p (k + j) = true → env[j]? = some .hole ∨ env[j]? = none) → RepS K A H (maskD (fun j => !p j) k env0) σ O2 → env.length = env0.length → ∃ O, O.Perm (O1 ++ O2) ∧ RepS K A H (mixD p k env env0) σ O
  | k, [], [], σ, O1, O2, r1, hh, r2, hl => by
    obtain ⟨e1, e2⟩ := r1
    obtain ⟨e3, e4⟩ := r2
    subst e2 e4 e3
    exact ⟨[], List.Perm.refl _, ⟨rfl, rfl⟩⟩
  | k, [], _ :: _, _, _, _, _, _, _, hl => by simp at hl
  | k, _ :: _, [], _, _, _, _, _, _, hl => by simp at hl
  | k, d :: ds, e :: es, σ, O1, O2, r1, hh, r2, hl => by
    simp only [maskD] at r2
    obtain ⟨ov, σ', P1, P2, e1, e2, q1, q2⟩ := r2
    subst e1 e2
    simp only [maskO] at r1
    obtain ⟨ov2, σ2, P3, P4, e3, e4, q3, q4⟩ := r1
    have e3' := List.cons.inj e3
    obtain ⟨rfl, rfl⟩ := e3'
    subst e4
    obtain ⟨P, pm, q5⟩ := RepS.mix p (k := k + 1) q4 (fun j hj => by
      have : k + 1 + j = k + (j + 1) := by omega
      rw [this] at hj
      simpa using hh (j + 1) hj) q2 (by simpa using hl)
    simp only [mixD]
    by_cases h : p k
    · have hd : d = .hole := by simpa using hh 0 (by simpa using h)
      subst hd
      have hP3 : P3 = [] := by
        rcases q3 with ⟨_, e⟩ | ⟨w, _, r⟩
        · exact e
        · simpa only [Rep] using r
      subst hP3
      refine ⟨P1 ++ P, ?_, ⟨ov, _, P1, P, rfl, rfl, by simpa [h] using q1, q5⟩⟩
      rw [List.nil_append]
      have a1 : (P1 ++ (P4 ++ P2)).Perm (P4 ++ (P1 ++ P2)) := by
        rw [← List.append_assoc, ← List.append_assoc]; exact List.Perm.append_right _ List.perm_append_comm
      exact (List.Perm.append_left _ pm).trans a1
    · have hP1 : P1 = [] := by
        rcases q1 with ⟨_, e⟩ | ⟨w, _, r⟩
        · exact e
        · simpa [h, Rep] using r
      subst hP1
      refine ⟨P3 ++ P, ?_, ⟨ov, _, P3, P, rfl, rfl, by simpa [h] using q3, q5⟩⟩
      rw [List.nil_append, List.append_assoc]
      exact List.Perm.append_left _ pm
/-- the slots vs are set aside -/
theorem St.mask {P : List D} {pv : List (Option V)} (st : St K F H (P ++ env) (pv ++ σ) O) (hl : pv.length = P.length) (vs : List Nat) :
    ∃ O1 O2 : List Addr, (∀ a ∈ O1, a ∈ O) ∧ St K (fun x => F x ∨ x ∈ O2) H (P ++ wipeD env vs) (pv ++ wipe σ vs) O1 ∧
      ∀ P' pv' envk O1' H', pv'.length = P'.length → Ext O1 H O1' H' → St K (fun x => F x ∨ x ∈ O2) H' (P' ++ envk) (pv' ++ wipe σ vs) O1' → (∀ j ∈ vs, envk[j]? = some .hole ∨ envk[j]? = none) → envk.length = env.length →
        ∃ O', Ext O H O' H' ∧ St K F H' (P' ++ backD envk env vs) (pv' ++ σ) O' := by
  obtain ⟨nd, nf, fh, rep⟩ := st
  obtain ⟨s, t, OP, OE, e, rfl, hl2, r1, r2⟩ := rep.split
  obtain ⟨rfl, rfl⟩ : pv = s ∧ σ = t := List.append_inj e (by omega)
  obtain ⟨Q1, Q2, pm, q1, q2⟩ := RepS.mask (fun j => decide (j ∈ vs)) (k := 0) r2
  have pm2 : ((OP ++ Q1) ++ Q2).Perm (OP ++ OE) := by rw [List.append_assoc]; exact List.Perm.append_left _ pm
  have ndA : ((OP ++ Q1) ++ Q2).Nodup := pm2.nodup_iff.mpr nd
  have nd1 := List.nodup_append.mp ndA
  have own2 := q2.own
  have mv1 : ∀ a, ¬ (F a ∨ a ∈ OP ++ OE) → H a ≠ none → ¬ ((F a ∨ a ∈ Q2) ∨ a ∈ OP ++ Q1) := fun a hn _ z => hn (by
    rcases z with (z | z) | z
    · exact .inl z
    · exact .inr (pm2.mem_iff.mp (List.mem_append_right _ z))
    · exact .inr (pm2.mem_iff.mp (List.mem_append_left _ z)))
  refine ⟨OP ++ Q1, Q2, fun a ha => pm2.mem_iff.mp (List.mem_append_left _ ha), ⟨nd1.1, fun a ha z => ?_, fun a z => ?_, ?_⟩, ?_⟩
  · rcases z with z | z
    · exact nf a (pm2.mem_iff.mp (List.mem_append_left _ ha)) z
    · exact nd1.2.2 a ha a z rfl
  · rcases z with z | z
    · exact fh a z
    · obtain ⟨xs, e⟩ := own2 a z; rw [e]; simp
  · rw [wipeD_mask, wipeO_mask]
    exact (r1.move (fun _ _ e _ => e) mv1).append (q1.move (fun _ _ e _ => e) mv1)
  · intro P' pv' envk O1' H' hl3 ex st' hh hlen
    obtain ⟨nd', nf', fh', rep'⟩ := st'
    obtain ⟨s, t, OP', OE', e, rfl, hl4, r1', r2'⟩ := rep'.split
    obtain ⟨rfl, e5⟩ := List.append_inj e (by omega)
    rw [← e5, wipeO_mask] at r2'
    have keep : ∀ a o, H a = some o → (a ∈ Q2 ∨ ¬ (F a ∨ a ∈ OP ++ OE) ∨ (∀ xs, o ≠ .lst xs)) → H' a = some o := fun a o e z => ex.1 a o e (by
      rcases z with z | z | z
      · exact .inl fun y => nd1.2.2 a y a z rfl
      · exact .inl fun y => z (.inr (pm2.mem_iff.mp (List.mem_append_left _ y)))
      · exact .inr z)
    have dis : ∀ a ∈ OP' ++ OE', a ∉ Q2 := fun a ha z => nf' a ha (.inr z)
    have q2' : RepS K (fun a => (F a ∨ a ∈ Q2) ∨ a ∈ OP' ++ OE') H' (maskD (fun j => !decide (j ∈ vs)) 0 env) σ Q2 := q2.move keep fun a hn hh2 z => by
      rcases z with (z | z) | z
      · exact hn (.inl z)
      · exact hn (.inr (pm2.mem_iff.mp (List.mem_append_right _ z)))
      · rcases ex.2 a z with y | y
        · exact hn (.inr (pm2.mem_iff.mp (List.mem_append_left _ y)))
        · exact hh2 y
    obtain ⟨Q3, pm3, q3⟩ := RepS.mix (fun j => decide (j ∈ vs)) (k := 0) r2' (fun j hj => hh j (by simpa using hj)) q2' hlen
    rw [← backD_mix envk env hlen] at q3
    have pm4 : (OP' ++ Q3).Perm ((OP' ++ OE') ++ Q2) := by rw [List.append_assoc]; exact List.Perm.append_left _ pm3
    have nd4 : (OP' ++ Q3).Nodup := pm4.nodup_iff.mpr (List.nodup_append.mpr ⟨nd', nd1.2.1, fun a ha b hb e => dis a ha (e ▸ hb)⟩)
    have mv4 : ∀ a, ¬ ((F a ∨ a ∈ Q2) ∨ a ∈ OP' ++ OE') → H' a ≠ none → ¬ (F a ∨ a ∈ OP' ++ Q3) := fun a hn _ z => hn (by
      rcases z with z | z
      · exact .inl (.inl z)
      · rcases List.mem_append.mp (pm4.mem_iff.mp z) with z | z
        · exact .inr z
        · exact .inl (.inr z))
    refine ⟨OP' ++ Q3, ⟨fun a o e z => ex.1 a o e (z.imp_left fun y q => y (pm2.mem_iff.mp (List.mem_append_left _ q))), fun a ha => ?_⟩, nd4, fun a ha z => ?_, fun a z => fh' a (.inl z), (r1'.move (fun _ _ e _ => e) mv4).append (q3.move (fun _ _ e _ => e) mv4)⟩
    · rcases List.mem_append.mp (pm4.mem_iff.mp ha) with z | z
      · exact (ex.2 a z).imp_left fun y => pm2.mem_iff.mp (List.mem_append_left _ y)
      · exact .inl (pm2.mem_iff.mp (List.mem_append_right _ z))
    · rcases List.mem_append.mp (pm4.mem_iff.mp ha) with y | y
      · exact nf' a y (.inl z)
      · exact nf a (pm2.mem_iff.mp (List.mem_append_right _ y)) z
end
end OE

/-! Oe13: list comprehensions of one clause. -/
namespace OE
open PySem PySem.Spec PyProof.Rows L2

section
variable {X : Cx} {K : PySem.W.Frag} {Γ : Fns} {ios : List Nat} {a b c x y z : Expr} {pos p1 p2 p3 p apos : Pos} {ea eb ec e : E} {es : Es} {xs rest : List Expr} {k : Nat} {T : List FI} {n : Str}
variable {F : Addr → Prop} {H H' : Hp} {env : List D} {σ : L2.St} {O : List Addr} {v : V} {d : D} {as : As}

theorem St.swap2 {A B C : List D} {a b c : List (Option V)} (st : St K F H (A ++ (B ++ C)) (a ++ (b ++ c)) O) (ha : a.length = A.length) (hb : b.length = B.length) :
    ∃ O' : List Addr, O'.Perm O ∧ St K F H (B ++ (A ++ C)) (b ++ (a ++ c)) O' := by
  obtain ⟨nd, nf, fh, rep⟩ := st
  obtain ⟨s, t, OA, OR, e, rfl, hl, r1, r2⟩ := rep.split
  obtain ⟨rfl, rfl⟩ : a = s ∧ b ++ c = t := List.append_inj e (by omega)
  obtain ⟨s, t, OB, OC, e, rfl, hl, r3, r4⟩ := r2.split
  obtain ⟨rfl, rfl⟩ : b = s ∧ c = t := List.append_inj e (by omega)
  have pm : (OB ++ (OA ++ OC)).Perm (OA ++ (OB ++ OC)) := by
    rw [← List.append_assoc, ← List.append_assoc]; exact List.Perm.append_right _ List.perm_append_comm
  have mv : ∀ x, ¬ (F x ∨ x ∈ OA ++ (OB ++ OC)) → H x ≠ none → ¬ (F x ∨ x ∈ OB ++ (OA ++ OC)) := fun x hn _ z => hn (z.imp_right pm.mem_iff.mp)
  exact ⟨_, pm, pm.nodup_iff.mpr nd, fun x hx => nf x (pm.mem_iff.mp hx), fh, (r3.move (fun _ _ e _ => e) mv).append ((r1.move (fun _ _ e _ => e) mv).append (r4.move (fun _ _ e _ => e) mv))⟩
theorem RepL.snoc {A : Addr → Prop} {ds : List D} {vs : List V} {O1 O2 : List Addr} (r : RepL K A H ds vs O1) (r2 : Rep K A H d v O2) : RepL K A H (ds ++ [d]) (vs ++ [v]) (O1 ++ O2) :=
  RepL.append r (by simp only [RepL, Rep.RepL]; exact ⟨v, [], O2, [], rfl, by simp, r2, rfl, rfl⟩)
theorem St.wipe {P : List D} {pv : List (Option V)} (st : St K F H (P ++ env) (pv ++ σ) O) (hl : pv.length = P.length) (vs : List Nat) : ∃ O' : List Addr, (∀ a ∈ O', a ∈ O) ∧ St K F H (P ++ wipeD env vs) (pv ++ L2.wipe σ vs) O' := by
  obtain ⟨O1, O2, sub, st2, _⟩ := st.mask hl vs
  exact ⟨O1, sub, st2.less fun a z => .inl z⟩
/-- a thing goes behind a new list -/
theorem St.snoc {acc R : List D} {rv : List (Option V)} {q : Addr} {vy : V} {dy : D} (st : St K F H (dy :: .lst true acc :: R) (some vy :: some (.ref q) :: rv) O) (hl : acc.length < sizeLine) :
    ∃ vs, H q = some (.lst vs) ∧ vs.length = acc.length ∧ ∃ O' : List Addr, Ext O H O' (upd H q (.lst (vs ++ [vy]))) ∧ St K F (upd H q (.lst (vs ++ [vy]))) (.lst true (acc ++ [dy]) :: R) (some (.ref q) :: rv) O' := by
  obtain ⟨OP, OR, e, st2, _⟩ := St.tail (P := [dy]) (pv := [some vy]) st rfl
  obtain ⟨q', vs, e1, hq, hlv, hll⟩ := St.topL st2
  cases e1
  refine ⟨vs, hq, hlv, ?_⟩
  obtain ⟨O', sub, ex, st3⟩ := St.setTop (ds' := acc ++ [dy]) (vs' := vs ++ [vy]) (w := .non) (dw := .hole) st hq (fun A On O1 nd rn r => ⟨O1 ++ On, [], fun a ha => by simpa [or_comm] using ha, by simpa using List.perm_append_comm.nodup_iff.mp nd, RepL.snoc r rn, by simp [Rep]⟩) (by rw [List.length_append, List.length_singleton]; omega)
  exact ⟨O', ex, st3.unpush⟩
theorem wipe_same {own is : List Nat} {σ2 : L2.St} (h : SameS is (L2.wipe σ own) σ2) (hs : ∀ j ∈ is, j ∈ own) : L2.wipe σ2 own = L2.wipe σ own := by
  apply List.ext_getElem?
  intro j
  rw [wipeO_get, wipeO_get]
  by_cases hj : j ∈ own
  · rw [if_pos hj, if_pos hj]
    have hl : σ2.length = σ.length := by rw [h.1, wipe_length]
    by_cases h2 : j < σ.length
    · rw [List.getElem?_eq_getElem h2, List.getElem?_eq_getElem (by omega)]; rfl
    · rw [List.getElem?_eq_none (by omega), List.getElem?_eq_none (by omega)]
  · rw [if_neg hj, if_neg hj, h.2 j fun z => hj (hs j z), wipeO_get, if_neg hj]
theorem turns_len {step : List D → D → Option (Option D × List D)} : ∀ {ds env acc : List D} {r : List D × List D}, turns step ds env acc = some r → acc.length ≤ r.1.length
  | [], env, acc, r, h => by simp only [turns, Option.some.injEq] at h; subst h; exact Nat.le_refl _
  | d :: ds, env, acc, r, h => by
    simp only [turns] at h
    split at h
    · cases h
    · exact turns_len h
    · have := turns_len h
      rw [List.length_append] at this
      omega
def condT (K : PySem.W.Frag) (c : Option Unit) (mc : List D → Option (D × List D)) : TT := match c with | none => tYes | some _ => tT K mc
def stepC (ios own : List Nat) (tg : Tg) (c : Option Unit) (mc me : List D → Option (D × List D)) : List D → D → Option (Option D × List D) := fun env d => (bindT ios tg d env).bind fun env1 => match c with
  | none => (me env1).map fun q => (some q.1, wipeD q.2 own)
  | some _ => (mc env1).bind fun q => match q.1 with
    | .bl true => (me q.2).map fun q => (some q.1, wipeD q.2 own)
    | .bl false => some (none, wipeD q.2 own)
    | _ => none
theorem turns_le {step : List D → D → Option (Option D × List D)} : ∀ {ds env acc : List D} {r : List D × List D}, turns step ds env acc = some r → r.1.length ≤ acc.length + ds.length
  | [], env, acc, r, h => by simp only [turns, Option.some.injEq] at h; subst h; simp
  | d :: ds, env, acc, r, h => by
    simp only [turns] at h
    split at h
    · cases h
    · have := turns_le h
      simp only [List.length_cons]; omega
    · have := turns_le h
      rw [List.length_append, List.length_singleton] at this
      simp only [List.length_cons]; omega
def holed (own : List Nat) (env : List D) : Prop := ∀ j ∈ own, env[j]? = some .hole ∨ env[j]? = none
theorem holed_wipe (own : List Nat) (env : List D) : holed own (wipeD env own) := fun j hj => by
  rw [wipeD_get, if_pos hj]
  cases env[j]? <;> simp
/-- the turns of one clause -/
theorem turns_walk {J : L2.It} {items : List D} {CI : Nat → List D} {CV : List (Option V)} {mc me : List D → Option (D × List D)} {own : List Nat} {tg : Tg} {c : Option Unit} {acc0 env0 acc envk : List D} {Dd : Addr} {Qd : Hp → Prop}
    (it : Iter K J items CI CV) (ho : ∀ j ∈ tgS tg, j ∈ own) (hlt : ∀ j ∈ tgS tg, j < σ.length) (e2 : turns (stepC ios own tg c mc me) items env0 acc0 = some (acc, envk)) (hmax : acc.length ≤ sizeLine) (hho0 : holed own env0)
    (st0 : St K F H (.lst true acc0 :: (CI 0 ++ env0)) (some (.ref Dd) :: (CV ++ L2.wipe σ own)) O)
    (post : ∀ H' O', Ext O H O' H' → holed own envk → St K F H' (.lst true acc :: (CI items.length ++ envk)) (some (.ref Dd) :: (CV ++ L2.wipe σ own)) O' → Qd H') :
    ∃ W : Nat → Nat → Hp → Prop, (∃ m, W 0 m H) ∧ ∀ i m H, W i m H →
      (J.stop i H ∧ Qd H) ∨ (J.go i H ∧ ∃ Nx : Hp → Prop, (∀ H', Nx H' → ∃ m', m' < m ∧ W (i + 1) m' H') ∧ ∀ x H', J.yld i H x H' → tG K ios tg x (L2.wipe σ own) H' fun σ2 H2 => L2.wipe σ2 own = L2.wipe σ own ∧ condT K c mc σ2 H2 fun b H3 =>
        if b = true then tE K me σ2 H3 fun y H4 => ∃ acc, H4 Dd = some (.lst acc) ∧ acc.length < sizeLine ∧ Nx (upd H4 Dd (.lst (acc ++ [y]))) else Nx H3) := by
  refine ⟨fun i m H' => ∃ envi acci Oi, m = items.length - i ∧ i ≤ items.length ∧ turns (stepC ios own tg c mc me) (items.drop i) envi acci = some (acc, envk) ∧ holed own envi ∧
    St K F H' (.lst true acci :: (CI i ++ envi)) (some (.ref Dd) :: (CV ++ L2.wipe σ own)) Oi ∧ Ext O H Oi H', ⟨items.length, env0, acc0, O, by simp, Nat.zero_le _, by simpa using e2, hho0, st0, Ext.refl⟩, ?_⟩
  rintro i m H' ⟨envi, acci, Oi, rfl, hi, et, hho, sti, exi⟩
  by_cases hlast : i = items.length
  · subst hlast
    rw [List.drop_length] at et
    simp only [turns, Option.some.injEq, Prod.mk.injEq] at et
    obtain ⟨rfl, rfl⟩ := et
    refine .inl ⟨?_, post H' Oi exi hho sti⟩
    obtain ⟨OP, OR, e9, s1, _⟩ := St.tail (P := [.lst true acci]) (pv := [some (.ref Dd)]) sti rfl
    exact it.stop _ _ _ _ _ s1
  · have hi' : i < items.length := by omega
    obtain ⟨di, hdi⟩ : ∃ di, items[i]? = some di := ⟨items[i], List.getElem?_eq_getElem hi'⟩
    have hdrop : items.drop i = di :: items.drop (i + 1) := by
      rw [List.drop_eq_getElem_cons hi']
      rw [List.getElem?_eq_getElem hi'] at hdi
      rw [Option.some.inj hdi]
    rw [hdrop] at et
    simp only [turns] at et
    obtain ⟨OP, OR, e9, s1, back1⟩ := St.tail (P := [.lst true acci]) (pv := [some (.ref Dd)]) sti rfl
    obtain ⟨hgo, hy⟩ := it.go i _ _ _ _ _ di hdi s1
    refine .inr ⟨hgo, fun H'' => ∃ envi acci Oi, i + 1 ≤ items.length ∧ turns (stepC ios own tg c mc me) (items.drop (i + 1)) envi acci = some (acc, envk) ∧ holed own envi ∧
      St K F H'' (.lst true acci :: (CI (i + 1) ++ envi)) (some (.ref Dd) :: (CV ++ L2.wipe σ own)) Oi ∧ Ext O H Oi H'', fun H'' ⟨envi', acci', Oi', q1, q2, q4, q5, q6⟩ => ⟨items.length - (i + 1), by omega, envi', acci', Oi', rfl, q1, q2, q4, q5, q6⟩, fun x H'' yl => ?_⟩
    obtain ⟨O5, ex5, st5⟩ := hy x H'' yl
    obtain ⟨ex6, st6⟩ := back1 _ _ _ _ ex5 st5
    have st6' : St K F H'' ([.lst true acci] ++ ([di] ++ (CI (i + 1) ++ envi))) ([some (.ref Dd)] ++ ([some x] ++ (CV ++ L2.wipe σ own))) (OP ++ O5) := st6
    have st7 : ∃ O7 : List Addr, O7.Perm (OP ++ O5) ∧ St K F H'' ((.lst true acci :: CI (i + 1)) ++ (di :: envi)) ((some (.ref Dd) :: CV) ++ (some x :: L2.wipe σ own)) O7 := by
      obtain ⟨OQ, OS, e10, s2, back2⟩ := St.tail (P := [.lst true acci]) (pv := [some (.ref Dd)]) (R := [di] ++ (CI (i + 1) ++ envi)) (rv := [some x] ++ (CV ++ L2.wipe σ own)) st6' rfl
      obtain ⟨O8, pm8, s3⟩ := St.swap2 s2 rfl (it.len _).symm
      obtain ⟨ex9, s4⟩ := back2 _ _ _ H'' (Ext.refl.perm pm8) s3
      exact ⟨OQ ++ O8, by rw [e10]; exact List.Perm.append_left _ pm8, s4⟩
    obtain ⟨O7, pm7, st7⟩ := st7
    obtain ⟨OQ, OS, e10, s2, back2⟩ := St.tail (P := .lst true acci :: CI (i + 1)) (pv := some (.ref Dd) :: CV) (R := di :: envi) (rv := some x :: L2.wipe σ own) st7 (by simp [it.len])
    have hlw : (L2.wipe σ own).length = σ.length := wipe_length σ own
    have fin : ∀ {σ2 : L2.St} {H3 : Hp} {O9 : List Addr} {env2 : List D}, SameS (tgS tg) (L2.wipe σ own) σ2 → Ext OS H'' O9 H3 → St K (fun x => F x ∨ x ∈ OQ) H3 env2 σ2 O9 → turns (stepC ios own tg c mc me) (items.drop (i + 1)) (wipeD env2 own) acci = some (acc, envk) →
        ∃ envi acci Oi, i + 1 ≤ items.length ∧ turns (stepC ios own tg c mc me) (items.drop (i + 1)) envi acci = some (acc, envk) ∧ holed own envi ∧
          St K F H3 (.lst true acci :: (CI (i + 1) ++ envi)) (some (.ref Dd) :: (CV ++ L2.wipe σ own)) Oi ∧ Ext O H Oi H3 := by
      intro σ2 H3 O9 env2 sm ex9 st9 et2
      obtain ⟨ex10, st10⟩ := back2 _ _ _ _ ex9 st9
      obtain ⟨O11, sub11, st11⟩ := st10.wipe (by simp [it.len]) own
      rw [wipe_same sm ho] at st11
      exact ⟨wipeD env2 own, acci, O11, hi', et2, holed_wipe _ _, st11, exi.trans ((ex6.perm pm7).trans (ex10.less sub11))⟩
    have fin2 : ∀ {σ2 : L2.St} {H3 : Hp} {O9 : List Addr} {env2 : List D} {dy : D} {vy : V}, SameS (tgS tg) (L2.wipe σ own) σ2 → Ext OS H'' O9 H3 → St K (fun x => F x ∨ x ∈ OQ) H3 (dy :: env2) (some vy :: σ2) O9 →
        turns (stepC ios own tg c mc me) (items.drop (i + 1)) (wipeD env2 own) (acci ++ [dy]) = some (acc, envk) →
        ∃ av, H3 Dd = some (.lst av) ∧ av.length < sizeLine ∧ ∃ envi acci Oi, i + 1 ≤ items.length ∧ turns (stepC ios own tg c mc me) (items.drop (i + 1)) envi acci = some (acc, envk) ∧ holed own envi ∧
          St K F (upd H3 Dd (.lst (av ++ [vy]))) (.lst true acci :: (CI (i + 1) ++ envi)) (some (.ref Dd) :: (CV ++ L2.wipe σ own)) Oi ∧ Ext O H Oi (upd H3 Dd (.lst (av ++ [vy]))) := by
      intro σ2 H3 O9 env2 dy vy sm ex9 st9 et2
      obtain ⟨ex10, st10⟩ := back2 _ _ _ _ ex9 st9
      have st10' : St K F H3 ((.lst true acci :: CI (i + 1)) ++ ([dy] ++ env2)) ((some (.ref Dd) :: CV) ++ ([some vy] ++ σ2)) _ := st10
      obtain ⟨O11, pm11, st11⟩ := St.swap2 st10' (by simp [it.len]) rfl
      have st11' : St K F H3 ((dy :: .lst true acci :: CI (i + 1)) ++ env2) ((some vy :: some (.ref Dd) :: CV) ++ σ2) O11 := st11
      obtain ⟨O12, sub12, st12⟩ := st11'.wipe (by simp [it.len]) own
      rw [wipe_same sm ho] at st12
      have hsz : acci.length < sizeLine := by
        have := turns_len et2
        rw [List.length_append, List.length_singleton] at this
        simp only at this
        omega
      obtain ⟨vs, hq, hlv, O13, ex13, st13⟩ := St.snoc (R := CI (i + 1) ++ wipeD env2 own) (rv := CV ++ L2.wipe σ own) st12 hsz
      exact ⟨vs, hq, by omega, wipeD env2 own, acci ++ [dy], O13, hi', et2, holed_wipe _ _, st13, exi.trans ((ex6.perm pm7).trans (((ex10.perm pm11).less sub12).trans ex13))⟩
    have hstep : ∃ env2, bindT ios tg di envi = some env2 := by
      cases hb : bindT ios tg di envi with
      | some env2 => exact ⟨env2, rfl⟩
      | none => simp [stepC, hb] at et
    obtain ⟨env2, hb⟩ := hstep
    refine ⟨_, envi, OS, di, env2, s2, hb, fun j hj => by rw [hlw]; exact hlt j hj, fun σ2 O9 sub9 st9 sm io => ⟨wipe_same sm ho, ?_⟩⟩
    simp only [stepC, hb, Option.bind_some] at et
    cases c with
    | none =>
      have e0 : condT K none mc = tYes := rfl
      rw [e0]
      simp only [tYes, if_true]
      cases hm : me env2 with
      | none => rw [hm] at et; simp at et
      | some q =>
        obtain ⟨dy, env3⟩ := q
        rw [hm] at et
        simp only [Option.map_some] at et
        refine ⟨_, env2, O9, dy, env3, st9, hm, fun vy H4 O10 ex10 st10 => ?_⟩
        exact fin2 sm ((Ext.refl.less sub9).trans ex10) st10 et
    | some u =>
      simp only at et
      cases hm : mc env2 with
      | none => rw [hm] at et; simp at et
      | some q =>
        obtain ⟨db, env3⟩ := q
        rw [hm] at et
        simp only [Option.bind_some] at et
        cases db <;> try (simp at et; done)
        rename_i bb
        refine ⟨_, env2, O9, bb, env3, st9, hm, fun H4 O10 ex10 st10 => ?_⟩
        cases bb with
        | false =>
          rw [if_neg (by simp)]
          simp only at et
          exact fin sm ((Ext.refl.less sub9).trans ex10) st10 et
        | true =>
          rw [if_pos rfl]
          simp only at et
          cases hm2 : me env3 with
          | none => rw [hm2] at et; simp at et
          | some q =>
            obtain ⟨dy, env4⟩ := q
            rw [hm2] at et
            simp only [Option.map_some] at et
            refine ⟨_, env3, O10, dy, env4, st10, hm2, fun vy H5 O11 ex11 st11 => ?_⟩
            exact fin2 sm ((Ext.refl.less sub9).trans (ex10.trans ex11)) st11 et
/-- a new empty list ahead of all -/
theorem St.newL {R : List D} {rv : List (Option V)} {Dd : Addr} (st : St K F H R rv O) (hD : H Dd = none) : ∃ O3 : List Addr, Ext O H O3 (upd H Dd (.lst [])) ∧ St K F (upd H Dd (.lst [])) (.lst true [] :: R) (some (.ref Dd) :: rv) O3 := by
  have h0 : St K F H ([] ++ R) ([] ++ rv) O := st
  obtain ⟨OP, OR, e9, s1, back⟩ := St.head (P := []) (pv := []) h0 rfl
  have hOP : OP = [] := by have := s1.rep; exact this.2
  subst hOP
  have e9' : O = OR := by simpa using e9
  subst e9'
  obtain ⟨exN, stN⟩ := s1.mkL (p := Dd) (ds := []) (vs := []) (O1 := []) (by simp [RepL, Rep.RepL]) List.nodup_nil (fun _ h => (nomatch h)) (Nat.zero_le _) hD
  obtain ⟨ex4, st4⟩ := back _ _ _ _ exN stN
  exact ⟨_, ex4, st4⟩
/-- behind a comprehension: the slots as they were, the new list on top -/
theorem comp_end {J : L2.It} {items : List D} {CI : Nat → List D} {CV : List (Option V)} {env1 envi acc : List D} {Dd : Addr} {own : List Nat} {r : Option (Nat × D)} {F2 : Addr → Prop} {H1 : Hp} {O1 O1m Oi : List Addr}
    (it : Iter K J items CI CV) (bk : Back K σ items.length CI CV r) (st1 : St K F H1 (CI 0 ++ env1) (CV ++ σ) O1)
    (unmask : ∀ (P' : List D) (pv' : List (Option V)) (envk : List D) (O1' : List Addr) (H' : Hp), pv'.length = P'.length → Ext O1m H1 O1' H' → St K F2 H' (P' ++ envk) (pv' ++ L2.wipe σ own) O1' → holed own envk → envk.length = env1.length → ∃ O', Ext O1 H1 O' H' ∧ St K F H' (P' ++ backD envk env1 own) (pv' ++ σ) O')
    (hho : holed own envi) (exi : Ext O1m H1 Oi H') (sti : St K F2 H' (.lst true acc :: (CI items.length ++ envi)) (some (.ref Dd) :: (CV ++ L2.wipe σ own)) Oi) :
    ∃ O', Ext O1 H1 O' H' ∧ St K F H' (.lst true acc :: putD r (backD envi env1 own)) (some (.ref Dd) :: σ) O' := by
  have hle : envi.length = env1.length := by
    have h1 := sti.rep.len
    have h2 := st1.rep.len
    have h3 := it.len items.length
    have h4 := it.len 0
    simp only [List.length_append, List.length_cons, wipe_length] at h1 h2
    omega
  obtain ⟨O5, ex5, st5⟩ := unmask (.lst true acc :: CI items.length) (some (.ref Dd) :: CV) envi Oi H' (by simp [it.len]) exi sti hho hle
  obtain ⟨OP, OR, rfl, s1, back⟩ := St.tail (P := [.lst true acc]) (pv := [some (.ref Dd)]) (R := CI items.length ++ backD envi env1 own) (rv := CV ++ σ) st5 rfl
  have hl6 : (backD envi env1 own).length = σ.length := by
    rw [backD_len, hle]
    have h2 := st1.rep.len
    have h4 := it.len 0
    simp only [List.length_append] at h2
    omega
  obtain ⟨O6, sub6, st6⟩ := bk _ _ _ σ _ _ (Nat.le_refl _) (fun _ _ => rfl) hl6 rfl s1
  obtain ⟨ex7, st7⟩ := back _ _ _ H' (Ext.refl.less sub6) st6
  exact ⟨_, ex5.trans ex7, st7⟩
theorem tE_comp {mi : List D → Option (List D × List D × Option (Nat × D))} {mc me : List D → Option (D × List D)} {own : List Nat} {tg : Tg} {c : Option Unit} {Q : VK} (ho : ∀ j ∈ tgS tg, j ∈ own) (hlt : ∀ j ∈ tgS tg, j < σ.length)
    (h : tE K (fun env => (mi env).bind fun p => (turns (stepC ios own tg c mc me) p.1 (wipeD p.2.1 own) []).map fun q => (.lst true q.1, putD p.2.2 (backD q.2 p.2.1 own))) σ H Q) :
    tLc (tI K mi) (tG K ios tg) (condT K c mc) (tE K me) own σ H Q := by
  obtain ⟨F, env, O, d, env', st, e, post⟩ := h
  rw [Option.bind_eq_some_iff] at e; obtain ⟨⟨items, env1, r⟩, e1, e⟩ := e
  rw [Option.map_eq_some_iff] at e; obtain ⟨⟨acc, envk⟩, e2, e⟩ := e
  simp only [Prod.mk.injEq] at e
  obtain ⟨rfl, rfl⟩ := e
  refine ⟨F, env, O, items, env1, r, st, e1, fun J CI CV H1 O1 ex1 it bk st1 Dd hD => ?_⟩
  obtain ⟨O1m, O2m, sub1, st2, unmask⟩ := st1.mask (it.len 0).symm own
  obtain ⟨O3, ex3, st3⟩ := st2.newL hD
  have hmax : acc.length ≤ sizeLine := by
    have := turns_le e2
    simp only [List.length_nil, Nat.zero_add] at this
    exact Nat.le_trans this it.most
  refine turns_walk it ho hlt e2 hmax (holed_wipe _ _) st3 fun H' O' ex hho st' => ?_
  obtain ⟨O6, ex6, st6⟩ := comp_end it bk st1 unmask hho (ex3.trans ex) st'
  exact post _ _ _ (ex1.trans ex6) st6
/-! two clauses -/
def step2 (ios own own2 : List Nat) (tg tg2 : Tg) (mi2 : List D → Option (List D × List D × Option (Nat × D))) (me : List D → Option (D × List D)) : List D → D → List D → Option (List D × List D) := fun env d acc => (bindT ios tg d env).bind fun env1 => (mi2 env1).bind fun p2 =>
  (turns (stepC ios own2 tg2 none (fun _ => none) me) p2.1 (wipeD p2.2.1 own2) acc).map fun q => (q.1, wipeD (putD p2.2.2 (backD q.2 p2.2.1 own2)) own)
theorem turns2_len {step : List D → D → List D → Option (List D × List D)} (hs : ∀ env d acc r, step env d acc = some r → acc.length ≤ r.1.length) : ∀ {ds env acc : List D} {r : List D × List D}, turns2 step ds env acc = some r → acc.length ≤ r.1.length
  | [], env, acc, r, h => by simp only [turns2, Option.some.injEq] at h; subst h; exact Nat.le_refl _
  | d :: ds, env, acc, r, h => by
    simp only [turns2] at h
    rw [Option.bind_eq_some_iff] at h; obtain ⟨q, h1, h2⟩ := h
    exact Nat.le_trans (hs _ _ _ _ h1) (turns2_len hs h2)
theorem step2_len {own own2 : List Nat} {tg tg2 : Tg} {mi2 : List D → Option (List D × List D × Option (Nat × D))} {me : List D → Option (D × List D)} (env : List D) (d : D) (acc : List D) (r : List D × List D) (h : step2 ios own own2 tg tg2 mi2 me env d acc = some r) : acc.length ≤ r.1.length := by
  simp only [step2] at h
  rw [Option.bind_eq_some_iff] at h; obtain ⟨env1, h1, h⟩ := h
  rw [Option.bind_eq_some_iff] at h; obtain ⟨p2, h2, h⟩ := h
  rw [Option.map_eq_some_iff] at h; obtain ⟨q, h3, h⟩ := h
  subst h
  exact turns_len (r := q) h3
theorem tE_comp2 {mi mi2 : List D → Option (List D × List D × Option (Nat × D))} {me : List D → Option (D × List D)} {own own2 : List Nat} {tg tg2 : Tg} {Q : VK} (ho : ∀ j ∈ tgS tg, j ∈ own) (hlt : ∀ j ∈ tgS tg, j < σ.length) (ho2 : ∀ j ∈ tgS tg2, j ∈ own2) (hlt2 : ∀ j ∈ tgS tg2, j < σ.length)
    (h : tE K (fun env => (mi env).bind fun p => (turns2 (step2 ios own own2 tg tg2 mi2 me) p.1 (wipeD p.2.1 own) []).bind fun q => if q.1.length ≤ lim then some (.lst true q.1, putD p.2.2 (backD q.2 p.2.1 own)) else none) σ H Q) :
    tLc2 (tI K mi) (tG K ios tg) tYes (tI K mi2) (tG K ios tg2) tYes (tE K me) own own2 σ H Q := by
  obtain ⟨F, env, O, d, env', st, e, post⟩ := h
  rw [Option.bind_eq_some_iff] at e; obtain ⟨⟨items, env1, r⟩, e1, e⟩ := e
  rw [Option.bind_eq_some_iff] at e; obtain ⟨⟨acc, envk⟩, e2, e⟩ := e
  simp only [Option.ite_none_right_eq_some, Option.some.injEq, Prod.mk.injEq] at e
  obtain ⟨hmax, rfl, rfl⟩ := e
  refine ⟨F, env, O, items, env1, r, st, e1, fun J CI CV H1 O1 ex1 it bk st1 Dd hD => ?_⟩
  obtain ⟨O1m, O2m, sub1, st2, unmask⟩ := st1.mask (it.len 0).symm own
  obtain ⟨O3, ex3, st3⟩ := st2.newL hD
  refine ⟨fun i m H' => ∃ envi acci Oi, m = items.length - i ∧ i ≤ items.length ∧ turns2 (step2 ios own own2 tg tg2 mi2 me) (items.drop i) envi acci = some (acc, envk) ∧ holed own envi ∧
    St K (fun x => F x ∨ x ∈ O2m) H' (.lst true acci :: (CI i ++ envi)) (some (.ref Dd) :: (CV ++ L2.wipe σ own)) Oi ∧ Ext O1m H1 Oi H', ⟨items.length, wipeD env1 own, [], O3, by simp, Nat.zero_le _, by simpa using e2, holed_wipe _ _, st3, ex3⟩, ?_⟩
  rintro i m H' ⟨envi, acci, Oi, rfl, hi, et, hho, sti, exi⟩
  by_cases hlast : i = items.length
  · subst hlast
    rw [List.drop_length] at et
    simp only [turns2, Option.some.injEq, Prod.mk.injEq] at et
    obtain ⟨rfl, rfl⟩ := et
    refine .inl ⟨?_, ?_⟩
    · obtain ⟨OP, OR, e9, s1, _⟩ := St.tail (P := [.lst true acci]) (pv := [some (.ref Dd)]) sti rfl
      exact it.stop _ _ _ _ _ s1
    · obtain ⟨O6, ex6, st6⟩ := comp_end it bk st1 unmask hho exi sti
      exact post _ _ _ (ex1.trans ex6) st6
  · have hi' : i < items.length := by omega
    obtain ⟨di, hdi⟩ : ∃ di, items[i]? = some di := ⟨items[i], List.getElem?_eq_getElem hi'⟩
    have hdrop : items.drop i = di :: items.drop (i + 1) := by
      rw [List.drop_eq_getElem_cons hi']
      rw [List.getElem?_eq_getElem hi'] at hdi
      rw [Option.some.inj hdi]
    rw [hdrop] at et
    simp only [turns2] at et
    obtain ⟨OP, OR, e9, s1, back1⟩ := St.tail (P := [.lst true acci]) (pv := [some (.ref Dd)]) sti rfl
    obtain ⟨hgo, hy⟩ := it.go i _ _ _ _ _ di hdi s1
    refine .inr ⟨hgo, fun H'' => ∃ envi acci Oi, i + 1 ≤ items.length ∧ turns2 (step2 ios own own2 tg tg2 mi2 me) (items.drop (i + 1)) envi acci = some (acc, envk) ∧ holed own envi ∧
      St K (fun x => F x ∨ x ∈ O2m) H'' (.lst true acci :: (CI (i + 1) ++ envi)) (some (.ref Dd) :: (CV ++ L2.wipe σ own)) Oi ∧ Ext O1m H1 Oi H'', fun H'' ⟨envi', acci', Oi', q1, q2, q4, q5, q6⟩ => ⟨items.length - (i + 1), by omega, envi', acci', Oi', rfl, q1, q2, q4, q5, q6⟩, fun x H'' yl => ?_⟩
    obtain ⟨O5, ex5, st5⟩ := hy x H'' yl
    obtain ⟨ex6, st6⟩ := back1 _ _ _ _ ex5 st5
    have st6' : St K (fun x => F x ∨ x ∈ O2m) H'' ([.lst true acci] ++ ([di] ++ (CI (i + 1) ++ envi))) ([some (.ref Dd)] ++ ([some x] ++ (CV ++ L2.wipe σ own))) (OP ++ O5) := st6
    have st7 : ∃ O7 : List Addr, O7.Perm (OP ++ O5) ∧ St K (fun x => F x ∨ x ∈ O2m) H'' ((.lst true acci :: CI (i + 1)) ++ (di :: envi)) ((some (.ref Dd) :: CV) ++ (some x :: L2.wipe σ own)) O7 := by
      obtain ⟨OQ, OS, e10, s2, back2⟩ := St.tail (P := [.lst true acci]) (pv := [some (.ref Dd)]) (R := [di] ++ (CI (i + 1) ++ envi)) (rv := [some x] ++ (CV ++ L2.wipe σ own)) st6' rfl
      obtain ⟨O8, pm8, s3⟩ := St.swap2 s2 rfl (it.len _).symm
      obtain ⟨ex9, s4⟩ := back2 _ _ _ H'' (Ext.refl.perm pm8) s3
      exact ⟨OQ ++ O8, by rw [e10]; exact List.Perm.append_left _ pm8, s4⟩
    obtain ⟨O7, pm7, st7⟩ := st7
    obtain ⟨OQ, OS, e10, s2, back2⟩ := St.tail (P := .lst true acci :: CI (i + 1)) (pv := some (.ref Dd) :: CV) (R := di :: envi) (rv := some x :: L2.wipe σ own) st7 (by simp [it.len])
    have hlw : (L2.wipe σ own).length = σ.length := wipe_length σ own
    rw [Option.bind_eq_some_iff] at et; obtain ⟨⟨acc1, env1'⟩, es, et⟩ := et
    simp only [step2] at es
    rw [Option.bind_eq_some_iff] at es; obtain ⟨env2, hb, es⟩ := es
    rw [Option.bind_eq_some_iff] at es; obtain ⟨⟨items2, env3, r2⟩, hm2, es⟩ := es
    rw [Option.map_eq_some_iff] at es; obtain ⟨⟨acc2, env4⟩, es, ee⟩ := es
    simp only [Prod.mk.injEq] at ee es
    obtain ⟨rfl, rfl⟩ := ee
    refine ⟨_, envi, OS, di, env2, s2, hb, fun j hj => by rw [hlw]; exact hlt j hj, fun σ2 O9 sub9 st9 sm io => ⟨wipe_same sm ho, ?_⟩⟩
    simp only [tYes, if_true]
    have hl2 : σ2.length = σ.length := by rw [sm.1, hlw]
    refine ⟨_, env2, O9, items2, env3, r2, st9, hm2, fun J2 CI2 CV2 H3 O10 ex10 it2 bk2 st10 => ?_⟩
    obtain ⟨ex11, st11⟩ := back2 _ _ _ _ ((Ext.refl.less sub9).trans ex10) st10
    have st11' : St K (fun x => F x ∨ x ∈ O2m) H3 (((.lst true acci :: CI (i + 1)) ++ CI2 0) ++ env3) (((some (.ref Dd) :: CV) ++ CV2) ++ σ2) (OQ ++ O10) := by
      rw [List.append_assoc, List.append_assoc]; exact st11
    obtain ⟨O11m, O12m, sub11, st12, unmask2⟩ := st11'.mask (by simp [it.len, it2.len]) own2
    have st12' : St K (fun x => (F x ∨ x ∈ O2m) ∨ x ∈ O12m) H3 ([.lst true acci] ++ (CI (i + 1) ++ (CI2 0 ++ wipeD env3 own2))) ([some (.ref Dd)] ++ (CV ++ (CV2 ++ L2.wipe σ2 own2))) O11m := by
      have := st12
      rw [List.append_assoc, List.append_assoc] at this
      exact this
    obtain ⟨O13, pm13, st13⟩ := St.swap2 st12' rfl (it.len _).symm
    obtain ⟨OT, OU, e14, s14, back3⟩ := St.tail (P := CI (i + 1)) (pv := CV) st13 (it.len _).symm
    have hmax2 : acc2.length ≤ sizeLine := Nat.le_trans (turns2_len step2_len et) hmax
    refine turns_walk (σ := σ2) (own := own2) (tg := tg2) (c := none) (mc := fun _ => none) it2 ho2 (fun j hj => by rw [hl2]; exact hlt2 j hj) es hmax2 (holed_wipe _ _) s14 fun H' O' ex15 hho2 st15 => ?_
    obtain ⟨ex16, st16⟩ := back3 _ _ _ _ ex15 st15
    have st16' : St K (fun x => (F x ∨ x ∈ O2m) ∨ x ∈ O12m) H' (CI (i + 1) ++ ([.lst true acc2] ++ (CI2 items2.length ++ env4))) (CV ++ ([some (.ref Dd)] ++ (CV2 ++ L2.wipe σ2 own2))) (OT ++ O') := st16
    obtain ⟨O17, pm17, st17⟩ := St.swap2 st16' (it.len _).symm rfl
    have st17' : St K (fun x => (F x ∨ x ∈ O2m) ∨ x ∈ O12m) H' ((([.lst true acc2] ++ CI (i + 1)) ++ CI2 items2.length) ++ env4) ((([some (.ref Dd)] ++ CV) ++ CV2) ++ L2.wipe σ2 own2) O17 := by
      rw [List.append_assoc, List.append_assoc, List.append_assoc, List.append_assoc]; exact st17
    have hl34 : env4.length = env3.length := by
      have h1 := st17.rep.len
      have h2 := st10.rep.len
      have h3 := it2.len items2.length
      have h4 := it2.len 0
      have h5 := it.len (i + 1)
      simp only [List.length_append, List.length_singleton, wipe_length] at h1 h2
      omega
    obtain ⟨O18, ex18, st18⟩ := unmask2 _ _ env4 O17 H' (by simp [it.len, it2.len]) ((Ext.refl.perm pm13).trans (ex16.perm pm17)) st17' hho2 hl34
    have st18' : St K (fun x => F x ∨ x ∈ O2m) H' (([.lst true acc2] ++ CI (i + 1)) ++ (CI2 items2.length ++ backD env4 env3 own2)) (([some (.ref Dd)] ++ CV) ++ (CV2 ++ σ2)) O18 := by
      have := st18
      have e0 : ([some (V.ref Dd)] ++ CV) ++ (CV2 ++ σ2) = (([some (V.ref Dd)] ++ CV) ++ CV2) ++ σ2 := (List.append_assoc _ _ _).symm
      have e1 : ([D.lst true acc2] ++ CI (i + 1)) ++ (CI2 items2.length ++ backD env4 env3 own2) = (([D.lst true acc2] ++ CI (i + 1)) ++ CI2 items2.length) ++ backD env4 env3 own2 := (List.append_assoc _ _ _).symm
      rw [e0, e1]; exact st18
    obtain ⟨OX, OY, e19, s19, back4⟩ := St.tail (P := [.lst true acc2] ++ CI (i + 1)) (pv := [some (.ref Dd)] ++ CV) st18' (by simp [it.len])
    have hl19 : (backD env4 env3 own2).length = σ2.length := by
      rw [backD_len, hl34]
      have h2 := st10.rep.len
      have h4 := it2.len 0
      simp only [List.length_append] at h2
      omega
    obtain ⟨O20, sub20, st20⟩ := bk2 _ _ _ σ2 _ _ (Nat.le_refl _) (fun _ _ => rfl) hl19 rfl s19
    obtain ⟨ex21, st21⟩ := back4 _ _ _ H' (Ext.refl.less sub20) st20
    obtain ⟨O22, sub22, st22⟩ := st21.wipe (by simp [it.len]) own
    rw [wipe_same sm ho] at st22
    exact ⟨_, _, O22, hi', et, holed_wipe _ _, st22, exi.trans ((ex6.perm pm7).trans (ex11.trans (ex18.trans (ex21.less sub22))))⟩
end
end OE

/-! OeB: calls with arguments that are only looked at; calls with keywords. -/
namespace OE
open PySem PySem.Spec PyProof.Rows L2

section
variable {X : Cx} {K : PySem.W.Frag} {Γ : Fns} {ios : List Nat}
variable {F : Addr → Prop} {H H' : Hp} {env : List D} {σ : L2.St} {O : List Addr} {v : V} {d : D} {as : As}
def asLen : As → Nat
  | .nil => 0
  | .ex _ r => asLen r + 1
  | .io _ r => asLen r + 1
  | .bw _ r => asLen r + 1
theorem evA_len {Γ : Fns} {ios : List Nat} : ∀ {as : As} {env : List D} {p : List D × List D}, evA Γ ios as env = some p → p.1.length = asLen as
  | .nil, env, p, h => by simp only [evA, Option.some.injEq] at h; subst h; rfl
  | .ex e r, env, p, h => by
    simp only [evA] at h
    rw [Option.bind_eq_some_iff] at h; obtain ⟨⟨a, env1⟩, e1, h⟩ := h
    rw [Option.map_eq_some_iff] at h; obtain ⟨q, e2, h⟩ := h
    subst h
    simp [asLen, evA_len e2]
  | .io i r, env, p, h => by
    simp only [evA] at h
    rw [Option.bind_eq_some_iff] at h; obtain ⟨_, e1, h⟩ := h
    rw [Option.map_eq_some_iff] at h; obtain ⟨q, e2, h⟩ := h
    subst h
    simp [asLen, evA_len e2]
  | .bw i r, env, p, h => by
    simp only [evA] at h
    rw [Option.bind_eq_some_iff] at h; obtain ⟨_, e1, h⟩ := h
    rw [Option.map_eq_some_iff] at h; obtain ⟨q, e2, h⟩ := h
    subst h
    simp [asLen, evA_len e2]
def Bwl (env2 : List D) : As → List D → List D → Prop
  | .nil, [], [] => True
  | .ex _ r, a :: as, b :: bs => a = b ∧ Bwl env2 r as bs
  | .io _ r, a :: as, b :: bs => a = b ∧ Bwl env2 r as bs
  | .bw i r, a :: as, b :: bs => a = .hole ∧ (∃ d, getV env2 i = some d ∧ b = share d) ∧ Bwl env2 r as bs
  | _, _, _ => False
theorem fillB_ok : ∀ {as : As} {ds : List D} {vs : List V} {env ds2 env2 : List D} {O : List Addr} {F : Addr → Prop}, St K F H (ds ++ env) (vs.map some ++ σ) O → ds.length = vs.length → AsV as vs σ → fillA as ds env = some (ds2, env2) →
    ∃ ds0 O', (∀ a ∈ O', a ∈ O) ∧ St K F H (ds0 ++ env2) (vs.map some ++ σ) O' ∧ ds0.length = vs.length ∧ Bwl env2 as ds0 ds2 ∧ env2.length = env.length
  | .nil, [], [], env, ds2, env2, O, F, st, hl, av, e => by
    simp only [fillA, Option.some.injEq, Prod.mk.injEq] at e
    obtain ⟨rfl, rfl⟩ := e
    exact ⟨[], O, fun _ h => h, st, rfl, trivial, rfl⟩
  | .ex e0 r, d :: ds, v :: vs, env, ds2, env2, O, F, st, hl, av, e => by
    simp only [fillA] at e
    rw [Option.map_eq_some_iff] at e; obtain ⟨⟨ds3, env3⟩, e1, e⟩ := e
    simp only [Prod.mk.injEq] at e
    obtain ⟨rfl, rfl⟩ := e
    obtain ⟨OP, OR, rfl, st1, back⟩ := St.tail (P := [d]) (pv := [some v]) st rfl
    obtain ⟨ds0, O', sub, st2, h3, h5, h4⟩ := fillB_ok st1 (by simpa using hl) av e1
    obtain ⟨ex, st3⟩ := back _ _ _ H (Ext.refl.less sub) st2
    refine ⟨d :: ds0, OP ++ O', fun a ha => ?_, st3, by simp [h3], ⟨rfl, h5⟩, h4⟩
    rcases List.mem_append.mp ha with ha | ha
    · exact List.mem_append_left _ ha
    · exact List.mem_append_right _ (sub a ha)
  | .io i r, d :: ds, v :: vs, env, ds2, env2, O, F, st, hl, av, e => by
    simp only [fillA] at e
    rw [Option.bind_eq_some_iff] at e; obtain ⟨d1, e0, e⟩ := e
    rw [Option.map_eq_some_iff] at e; obtain ⟨⟨ds3, env3⟩, e1, e⟩ := e
    simp only [Prod.mk.injEq] at e
    obtain ⟨rfl, rfl⟩ := e
    obtain ⟨hv, av⟩ := av
    obtain ⟨O1, sub1, stD⟩ := st.dropTop
    have st0 : St K F H (.hole :: (ds ++ env)) (some v :: (vs.map some ++ σ)) O1 := St.push stD fun A => by simp [Rep]
    obtain ⟨O2, sub2, st2⟩ := st0.mvIn (by rw [List.length_map]; simpa using hl.symm) e0 hv
    obtain ⟨OP, OR, rfl, st3, back⟩ := St.tail (P := [d1]) (pv := [some v]) st2 rfl
    obtain ⟨ds0, O', sub, st4, h3, h5, h4⟩ := fillB_ok st3 (by simpa using hl) av e1
    obtain ⟨ex, st5⟩ := back _ _ _ H (Ext.refl.less sub) st4
    refine ⟨d1 :: ds0, OP ++ O', fun a ha => sub1 a (sub2 a ?_), st5, by simp [h3], ⟨rfl, h5⟩, by rw [h4, List.length_set]⟩
    rcases List.mem_append.mp ha with ha | ha
    · exact List.mem_append_left _ ha
    · exact List.mem_append_right _ (sub a ha)
  | .bw i r, d :: ds, v :: vs, env, ds2, env2, O, F, st, hl, av, e => by
    simp only [fillA] at e
    rw [Option.bind_eq_some_iff] at e; obtain ⟨⟨ds3, env3⟩, e1, e⟩ := e
    rw [Option.map_eq_some_iff] at e; obtain ⟨d1, e0, e⟩ := e
    simp only [Prod.mk.injEq] at e
    obtain ⟨rfl, rfl⟩ := e
    obtain ⟨hv, av⟩ := av
    obtain ⟨O1, sub1, stD⟩ := st.dropTop
    obtain ⟨ds0, O', sub, st4, h3, h5, h4⟩ := fillB_ok stD (by simpa using hl) av e1
    refine ⟨.hole :: ds0, O', fun a ha => sub1 a (sub a ha), St.push st4 fun A => by simp [Rep], by simp [h3], ⟨rfl, ⟨d1, e0, rfl⟩, h5⟩, h4⟩
  | .nil, _ :: _, _, _, _, _, _, _, _, _, _, e => by simp [fillA] at e
  | .nil, [], _ :: _, _, _, _, _, _, _, hl, _, _ => by simp at hl
  | .ex _ _, [], _, _, _, _, _, _, _, _, _, e => by simp [fillA] at e
  | .io _ _, [], _, _, _, _, _, _, _, _, _, e => by simp [fillA] at e
  | .bw _ _, [], _, _, _, _, _, _, _, _, _, e => by simp [fillA] at e
  | .ex _ _, _ :: _, [], _, _, _, _, _, _, hl, _, _ => by simp at hl
  | .io _ _, _ :: _, [], _, _, _, _, _, _, hl, _, _ => by simp at hl
  | .bw _ _, _ :: _, [], _, _, _, _, _, _, hl, _, _ => by simp at hl
theorem RepO.hole {A : Addr → Prop} {ov : Option V} (r : RepO K A H .hole ov O) : O = [] := by
  rcases r with ⟨_, h⟩ | ⟨v, _, h⟩
  · exact h
  · simpa only [Rep] using h
theorem bwl_rep {A1 A2 B : Addr → Prop} {env2 : List D} {OR : List Addr} (hA : ∀ a, B a → A1 a) (r2 : RepS K A2 H env2 σ OR) (hB : ∀ a, B a → A2 a ∧ a ∉ OR) :
    ∀ {as : As} {ds0 ds2 : List D} {vs : List V} {OP : List Addr}, RepS K A1 H ds0 (vs.map some) OP → Bwl env2 as ds0 ds2 → AsV as vs σ → RepS K B H ds2 (vs.map some) OP
  | .nil, [], [], [], OP, r, _, _ => r
  | .ex _ r', a :: ds0, b :: ds2, v :: vs, OP, r, hb, av => by
    obtain ⟨ov, σ', O1, O2, e1, rfl, q1, q2⟩ := r
    obtain ⟨rfl, hb⟩ := hb
    simp only [List.map_cons, List.cons.injEq] at e1
    obtain ⟨rfl, rfl⟩ := e1
    exact ⟨some v, vs.map some, O1, O2, rfl, rfl, q1.move (fun _ _ e _ => e) fun a hn _ z => hn (hA a z), bwl_rep hA r2 hB q2 hb av⟩
  | .io _ r', a :: ds0, b :: ds2, v :: vs, OP, r, hb, av => by
    obtain ⟨ov, σ', O1, O2, e1, rfl, q1, q2⟩ := r
    obtain ⟨rfl, hb⟩ := hb
    simp only [List.map_cons, List.cons.injEq] at e1
    obtain ⟨rfl, rfl⟩ := e1
    exact ⟨some v, vs.map some, O1, O2, rfl, rfl, q1.move (fun _ _ e _ => e) fun a hn _ z => hn (hA a z), bwl_rep hA r2 hB q2 hb av.2⟩
  | .bw i r', a :: ds0, b :: ds2, v :: vs, OP, r, hb, av => by
    obtain ⟨ov, σ', O1, O2, e1, rfl, q1, q2⟩ := r
    obtain ⟨rfl, ⟨d, hd, rfl⟩, hb⟩ := hb
    simp only [List.map_cons, List.cons.injEq] at e1
    obtain ⟨rfl, rfl⟩ := e1
    have := q1.hole
    subst this
    obtain ⟨w, Oi, hw, rw, sl⟩ := r2.slot hd
    rw [av.1] at hw
    cases hw
    exact ⟨some v, vs.map some, [], O2, rfl, rfl, .inr ⟨v, rfl, rw.share d fun a ha => ⟨(hB a ha).1, fun z => (hB a ha).2 (sl.subset z)⟩⟩, bwl_rep hA r2 hB q2 hb av.2⟩
  | .nil, [], [], _ :: _, _, r, _, _ => by obtain ⟨e, _⟩ := r; simp at e
  | .nil, _ :: _, _, _, _, _, hb, _ => by simp [Bwl] at hb
  | .nil, [], _ :: _, _, _, _, hb, _ => by simp [Bwl] at hb
  | .ex _ _, [], _, _, _, _, hb, _ => by simp [Bwl] at hb
  | .io _ _, [], _, _, _, _, hb, _ => by simp [Bwl] at hb
  | .bw _ _, [], _, _, _, _, hb, _ => by simp [Bwl] at hb
  | .ex _ _, _ :: _, [], _, _, _, hb, _ => by simp [Bwl] at hb
  | .io _ _, _ :: _, [], _, _, _, hb, _ => by simp [Bwl] at hb
  | .bw _ _, _ :: _, [], _, _, _, hb, _ => by simp [Bwl] at hb
  | .ex _ _, _ :: _, _ :: _, [], _, r, _, _ => by obtain ⟨ov, σ', O1, O2, e1, _⟩ := r; simp at e1
  | .io _ _, _ :: _, _ :: _, [], _, r, _, _ => by obtain ⟨ov, σ', O1, O2, e1, _⟩ := r; simp at e1
  | .bw _ _, _ :: _, _ :: _, [], _, r, _, _ => by obtain ⟨ov, σ', O1, O2, e1, _⟩ := r; simp at e1
/-- a closed tree stands whatever is to be avoided -/
theorem Rep.any {A A' : Addr → Prop} : ∀ (d : D) {v : V} {O : List Addr}, closed d = true → Rep K A H d v O → Rep K A' H d v O
  | .hole, v, O, h, r => by simp [closed] at h
  | .scr _, v, O, h, r => by simp [closed] at h
  | .non, v, O, h, r => by simpa only [Rep] using r
  | .bl b, v, O, h, r => by simpa only [Rep] using r
  | .int b, v, O, h, r => by simpa only [Rep] using r
  | .str b, v, O, h, r => by simpa only [Rep] using r
  | .tup ds, v, O, h, r => by
    simp only [closed] at h
    simp only [Rep] at r ⊢
    obtain ⟨a, vs, e, ht, hl, r⟩ := r
    exact ⟨a, vs, e, ht, hl, anyL ds h r⟩
  | .lst false ds, v, O, h, r => by simp [closed] at h
  | .lst true ds, v, O, h, r => by
    simp only [closed, Bool.true_and] at h
    simp only [Rep] at r ⊢
    obtain ⟨a, vs, O', rfl, e, hq, hl, r⟩ := r
    exact ⟨a, vs, O', rfl, e, hq, hl, anyL ds h r⟩
where anyL {A A' : Addr → Prop} : ∀ (ds : List D) {vs : List V} {O : List Addr}, closed.closedL ds = true → RepL K A H ds vs O → RepL K A' H ds vs O
  | [], vs, O, h, r => by simpa only [RepL, Rep.RepL] using r
  | d :: ds, vs, O, h, r => by
    simp only [closed.closedL, Bool.and_eq_true] at h
    simp only [RepL, Rep.RepL] at r ⊢
    obtain ⟨v, vs', O1, O2, e1, rfl, r1, r2⟩ := r
    exact ⟨v, vs', O1, O2, e1, rfl, Rep.any d h.1 r1, anyL ds h.2 r2⟩
theorem RepO.any {A A' : Addr → Prop} {ov : Option V} (h : closed d = true) (r : RepO K A H d ov O) : RepO K A' H d ov O := by
  rcases r with ⟨rfl, h⟩ | ⟨v, e, r⟩
  · simp [closed] at h
  · exact .inr ⟨v, e, r.any d h⟩
/-- of what came back, that which is laid back -/
def keepO : As → List D → List D
  | .nil, _ => []
  | .ex _ r, _ :: ds => .hole :: keepO r ds
  | .io _ r, d :: ds => d :: keepO r ds
  | .bw _ r, _ :: ds => .hole :: keepO r ds
  | _, _ => []
theorem keepO_back : ∀ {as : As} {ds env env2 : List D}, backA as ds env = some env2 → backA as (keepO as ds) env = some env2
  | .nil, [], env, env2, h => h
  | .ex _ r, d :: ds, env, env2, h => by simp only [backA, keepO] at h ⊢; exact keepO_back h
  | .io _ r, d :: ds, env, env2, h => by simp only [backA, keepO] at h ⊢; exact keepO_back h
  | .bw _ r, d :: ds, env, env2, h => by simp only [backA, keepO] at h ⊢; exact keepO_back h
  | .nil, _ :: _, _, _, h => by simp [backA] at h
  | .ex _ _, [], _, _, h => by simp [backA] at h
  | .io _ _, [], _, _, h => by simp [backA] at h
  | .bw _ _, [], _, _, h => by simp [backA] at h
theorem keepO_rep {A A' : Addr → Prop} : ∀ {as : As} {outs : List D} {vs : List V} {O : List Addr}, outs.length = vs.length → AsV as vs σ → RepS K A H outs (vs.map some) O → (iosOf as outs).all closed = true → ∃ O', O'.Sublist O ∧ RepS K A' H (keepO as outs) (vs.map some) O'
  | .nil, [], [], O, hl, av, r, h => ⟨[], by simp, ⟨rfl, rfl⟩⟩
  | .ex _ r', d :: ds, v :: vs, O, hl, av, r, h => by
    obtain ⟨ov, σ', O1, O2, e1, rfl, q1, q2⟩ := r
    simp only [List.map_cons, List.cons.injEq] at e1
    obtain ⟨rfl, rfl⟩ := e1
    obtain ⟨O', sl, q⟩ := keepO_rep (as := r') (by simpa using hl) av q2 h
    exact ⟨O', sl.trans (List.sublist_append_right _ _), some v, vs.map some, [], O', rfl, rfl, .inl ⟨rfl, rfl⟩, q⟩
  | .bw _ r', d :: ds, v :: vs, O, hl, av, r, h => by
    obtain ⟨ov, σ', O1, O2, e1, rfl, q1, q2⟩ := r
    simp only [List.map_cons, List.cons.injEq] at e1
    obtain ⟨rfl, rfl⟩ := e1
    obtain ⟨O', sl, q⟩ := keepO_rep (as := r') (by simpa using hl) av.2 q2 h
    exact ⟨O', sl.trans (List.sublist_append_right _ _), some v, vs.map some, [], O', rfl, rfl, .inl ⟨rfl, rfl⟩, q⟩
  | .io _ r', d :: ds, v :: vs, O, hl, av, r, h => by
    obtain ⟨ov, σ', O1, O2, e1, rfl, q1, q2⟩ := r
    simp only [List.map_cons, List.cons.injEq] at e1
    obtain ⟨rfl, rfl⟩ := e1
    simp only [iosOf, List.all_cons, Bool.and_eq_true] at h
    obtain ⟨O', sl, q⟩ := keepO_rep (as := r') (by simpa using hl) av.2 q2 h.2
    exact ⟨O1 ++ O', (List.Sublist.refl O1).append sl, some v, vs.map some, O1, O', rfl, rfl, q1.any h.1, q⟩
  | .nil, _ :: _, [], _, hl, _, _, _ => by simp at hl
  | .nil, _, _ :: _, _, _, av, _, _ => by simp [AsV] at av
  | .ex _ _, _, [], _, _, av, _, _ => by simp [AsV] at av
  | .io _ _, _, [], _, _, av, _, _ => by simp [AsV] at av
  | .bw _ _, _, [], _, _, av, _, _ => by simp [AsV] at av
  | .ex _ _, [], _ :: _, _, hl, _, _, _ => by simp at hl
  | .io _ _, [], _ :: _, _, hl, _, _, _ => by simp at hl
  | .bw _ _, [], _ :: _, _, hl, _, _, _ => by simp at hl
theorem keepO_len : ∀ {as : As} {outs : List D} {vs : List V}, outs.length = vs.length → AsV as vs σ → (keepO as outs).length = vs.length
  | .nil, [], [], hl, av => rfl
  | .ex _ r', d :: ds, v :: vs, hl, av => by simp only [keepO, List.length_cons]; rw [keepO_len (as := r') (by simpa using hl) av]
  | .bw _ r', d :: ds, v :: vs, hl, av => by simp only [keepO, List.length_cons]; rw [keepO_len (as := r') (by simpa using hl) av.2]
  | .io _ r', d :: ds, v :: vs, hl, av => by simp only [keepO, List.length_cons]; rw [keepO_len (as := r') (by simpa using hl) av.2]
  | .nil, _ :: _, [], hl, _ => by simp at hl
  | .nil, _, _ :: _, _, av => by simp [AsV] at av
  | .ex _ _, _, [], _, av => by simp [AsV] at av
  | .io _ _, _, [], _, av => by simp [AsV] at av
  | .bw _ _, _, [], _, av => by simp [AsV] at av
  | .ex _ _, [], _ :: _, hl, _ => by simp at hl
  | .io _ _, [], _ :: _, hl, _ => by simp at hl
  | .bw _ _, [], _ :: _, hl, _ => by simp at hl
/-- f(..) where some arguments are only looked at -/
theorem tE_callB {f : Nat} {np : Nat} {Q : VK} {E : XK} (h : tE K (ev Γ ios (.call f as)) σ H Q) (hn : ∀ ds r, Γ f ds = some r → ds.length = np) :
    tCall (spD K np (Γ f)) [] E (tAs K as (evA Γ ios as)) σ H Q := by
  cases hb : hasBw as with
  | false => exact tE_call hb h hn
  | true =>
  obtain ⟨F, env, O, d, env', st, e, post⟩ := h
  simp only [ev, hb, Bool.true_and] at e
  rw [Option.bind_eq_some_iff] at e; obtain ⟨⟨ds, env1⟩, e1, e⟩ := e
  rw [Option.bind_eq_some_iff] at e; obtain ⟨⟨ds2, env2⟩, e2, e⟩ := e
  rw [Option.bind_eq_some_iff] at e; obtain ⟨⟨r, outs⟩, e3, e⟩ := e
  simp only [Option.ite_none_left_eq_some, Bool.not_eq_true', Bool.not_eq_false, Bool.and_eq_true] at e
  obtain ⟨⟨hcr, hco⟩, e⟩ := e
  rw [Option.map_eq_some_iff] at e; obtain ⟨env3, e4, e⟩ := e
  simp only [Prod.mk.injEq] at e
  obtain ⟨rfl, rfl⟩ := e
  refine ⟨F, env, O, ds, env1, st, e1, fun vs H1 O1 ex1 st1 hl av => ?_⟩
  obtain ⟨ds0, O2, sub2, st2, hl2, hbw, hle⟩ := fillB_ok st1 hl av e2
  obtain ⟨sl, sr, OP, OR, e9, rfl, hl9, sP, sR⟩ := st2.split
  obtain ⟨rfl, rfl⟩ : vs.map some = sl ∧ σ = sr := List.append_inj e9 (by simp [hl9, hl2])
  have rep3 : RepS K (fun a => F a ∨ a ∈ OP) H1 ds2 (vs.map some) OP := bwl_rep (fun a z => z.imp_left .inl) sR.rep (fun a z => ⟨.inl z, fun y => sR.nf a y z⟩) sP.rep hbw av
  have st3 : St K F H1 ds2 (vs.map some) OP := ⟨sP.nd, fun a ha z => sP.nf a ha (.inl z), fun a z => sP.fh a (.inl z), rep3⟩
  rw [List.append_nil]
  refine ⟨by rw [← hn _ _ e3, ← st3.rep.len, List.length_map], F, ds2, OP, r, outs, st3, e3, fun v H2 O3 ex3 st4 => ?_⟩
  have hlo : outs.length = vs.length := by
    have h1 := st4.rep.len
    simp only [List.length_cons, List.length_map] at h1
    omega
  obtain ⟨ov, σ', Or, Oo, e10, rfl, q1, q2⟩ := st4.rep
  simp only [List.cons.injEq] at e10
  obtain ⟨rfl, rfl⟩ := e10
  obtain ⟨Oo', slo, q3⟩ := keepO_rep (A' := fun a => (F a ∨ a ∈ OR) ∨ a ∈ Or ++ Oo) hlo av q2 hco
  have sub3 : ∀ a ∈ Or ++ Oo', a ∈ Or ++ Oo := ((List.Sublist.refl Or).append slo).subset
  have ownR := sR.own
  have sP' : St K (fun a => F a ∨ a ∈ OR) H2 (r :: keepO as outs) (some v :: vs.map some) (Or ++ Oo') := by
    refine ⟨st4.nd.sublist ((List.Sublist.refl Or).append slo), fun a ha z => ?_, fun a z => ?_, some v, vs.map some, Or, Oo', rfl, rfl, q1.any hcr, ?_⟩
    · rcases z with z | z
      · exact st4.nf a (sub3 a ha) z
      · rcases ex3.2 a (sub3 a ha) with y | y
        · exact sR.nf a z (.inr y)
        · obtain ⟨xs, w⟩ := ownR a z
          rw [w] at y; cases y
    · rcases z with z | z
      · exact st4.fh a z
      · obtain ⟨xs, w⟩ := ownR a z
        have : H2 a = some (.lst xs) := ex3.1 a _ w (.inl fun y => sR.nf a z (.inr y))
        rw [this]; simp
    · exact q3.move (fun _ _ e _ => e) fun a hn _ z => hn (z.imp_right (sub3 a))
  have ex3' : Ext OP H1 (Or ++ Oo') H2 := ex3.less sub3
  have sR' := St.other sP sR ex3' sP'
  have st5 := sP'.join sR'
  have ex5 : Ext (OP ++ OR) H1 ((Or ++ Oo') ++ OR) H2 := ex3'.frame
  obtain ⟨OP2, OR2, e9, st6, back6⟩ := St.tail (P := [r]) (pv := [some v]) (R := keepO as outs ++ env2) (rv := vs.map some ++ σ) st5 rfl
  have hle2 : env2.length = σ.length := by
    have h1 := st2.rep.len
    simp only [List.length_append, List.length_map] at h1
    omega
  obtain ⟨O7, sub7, st7⟩ := back_ok st6 (keepO_len hlo av) av (keepO_back e4) hle2
  obtain ⟨ex8, st8⟩ := back6 _ _ _ H2 (Ext.refl.less sub7) st7
  exact post v H2 _ ((ex1.less sub2).trans (ex5.trans ex8)) st8

/-! keywords -/
theorem permD_map {α β : Type} (f : α → β) (js : List Nat) (l : List α) : permD js (l.map f) = (permD js l).map f := by
  simp only [permD, List.getElem?_map, List.map_filterMap]
theorem permD_self {α : Type} (l : List α) : permD (List.range l.length) l = l := by
  induction l with
  | nil => rfl
  | cons a l ih =>
    simp only [permD, List.length_cons, List.range_succ_eq_map, List.filterMap_cons, List.getElem?_cons_zero, List.filterMap_map] at ih ⊢
    exact congrArg _ ih
theorem permD_perm {α : Type} {js : List Nat} {l : List α} (h : js.Perm (List.range l.length)) : (permD js l).Perm l := by
  have := h.filterMap fun j => l[j]?
  exact this.trans (by rw [show (List.range l.length).filterMap (fun j => l[j]?) = l from permD_self l])
theorem permD_inv {α : Type} {js ix : List Nat} {l : List α} (h : permD ix (permD js (List.range l.length)) = List.range l.length) : permD ix (permD js l) = l := by
  cases l with
  | nil =>
    have e0 : ∀ js : List Nat, permD js ([] : List α) = [] := fun js => by simp only [permD, List.getElem?_nil]; induction js with
      | nil => rfl
      | cons a l ih => simp [List.filterMap_cons]
    rw [e0, e0]
  | cons a l =>
    have e : (List.range (a :: l).length).map (fun j => (a :: l).getD j a) = a :: l := by
      apply List.ext_getElem
      · simp
      · intro i h1 h2
        simp only [List.getElem_map, List.getElem_range]
        rw [List.getD_eq_getElem?_getD, List.getElem?_eq_getElem h2, Option.getD_some]
    rw [← e, permD_map, permD_map, h]
theorem RepS.permP {A : Addr → Prop} : ∀ {ps qs : List (D × Option V)} {O : List Addr}, ps.Perm qs → RepS K A H (ps.map (·.1)) (ps.map (·.2)) O → ∃ O', O'.Perm O ∧ RepS K A H (qs.map (·.1)) (qs.map (·.2)) O' := by
  intro ps qs O h
  induction h generalizing O with
  | nil => exact fun r => ⟨O, .refl _, r⟩
  | cons x _ ih =>
    rintro ⟨ov, σ', O1, O2, e1, rfl, q1, q2⟩
    simp only [List.map_cons, List.cons.injEq] at e1
    obtain ⟨rfl, rfl⟩ := e1
    obtain ⟨O', pm, q⟩ := ih q2
    exact ⟨O1 ++ O', pm.append_left _, _, _, O1, O', rfl, rfl, q1, q⟩
  | swap x y l =>
    rintro ⟨ov, σ', O1, O2, e1, rfl, q1, ov2, σ2, O3, O4, e2, rfl, q2, q3⟩
    simp only [List.map_cons, List.cons.injEq] at e1
    obtain ⟨rfl, rfl⟩ := e1
    simp only [List.map_cons, List.cons.injEq] at e2
    obtain ⟨rfl, rfl⟩ := e2
    refine ⟨O3 ++ (O1 ++ O4), ?_, _, _, O3, _, rfl, rfl, q2, _, _, O1, O4, rfl, rfl, q1, q3⟩
    rw [← List.append_assoc, ← List.append_assoc]
    exact List.perm_append_comm.append_right _
  | trans _ _ ih1 ih2 =>
    intro r
    obtain ⟨O1, pm1, r1⟩ := ih1 r
    obtain ⟨O2, pm2, r2⟩ := ih2 r1
    exact ⟨O2, pm2.trans pm1, r2⟩
theorem RepS.perm {A : Addr → Prop} {js : List Nat} {ds : List D} {vs : List (Option V)} {O : List Addr} (r : RepS K A H ds vs O) (h : js.Perm (List.range ds.length)) : ∃ O', O'.Perm O ∧ RepS K A H (permD js ds) (permD js vs) O' := by
  have hl := r.len
  have e1 : (ds.zip vs).map (·.1) = ds := List.map_fst_zip (by omega)
  have e2 : (ds.zip vs).map (·.2) = vs := List.map_snd_zip (by omega)
  have pm : (permD js (ds.zip vs)).Perm (ds.zip vs) := permD_perm (by rw [List.length_zip, hl, Nat.min_self]; exact h)
  have := RepS.permP (K := K) (H := H) (A := A) (O := O) pm.symm (by rw [e1, e2]; exact r)
  rw [← permD_map, ← permD_map, e1, e2] at this
  exact this
theorem St.perm {js : List Nat} {ds : List D} {vs : List (Option V)} (st : St K F H ds vs O) (h : js.Perm (List.range ds.length)) : ∃ O', O'.Perm O ∧ St K F H (permD js ds) (permD js vs) O' := by
  obtain ⟨O', pm, r⟩ := st.rep.perm h
  exact ⟨O', pm, pm.nodup_iff.mpr st.nd, fun a ha => st.nf a (pm.mem_iff.mp ha), st.fh, r.move (fun _ _ e _ => e) fun a hn _ z => hn (z.imp_right pm.mem_iff.mp)⟩
theorem permD_len {α : Type} {js : List Nat} {l : List α} (h : js.Perm (List.range l.length)) : (permD js l).length = l.length := (permD_perm h).length_eq
/-- what a call with keywords alone binds -/
def gK {α : Type} (n : Nat) (js : List Nat) : List α → List α → List α
  | [], ws => if ws.length = n then permD js ws else []
  | _ :: _, _ => []
theorem tE_callK {f : Nat} {np : Nat} {js ix : List Nat} {Q : VK} {E : XK} (hb : hasBw as = false) (hj : js.Perm (List.range np)) (hi : ix.Perm (List.range np)) (hx : permD ix (permD js (List.range np)) = List.range np)
    (hal : asLen as = np) (h : tE K (ev Γ ios (.callK f as js ix)) σ H Q) (hn : ∀ ds r, Γ f ds = some r → ds.length = np) :
    tCallK (spD K np (Γ f)) (gK np js) E tNil (tAs K as (evA Γ ios as)) σ H Q := by
  obtain ⟨F, env, O, d, env', st, e, post⟩ := h
  simp only [ev] at e
  rw [Option.bind_eq_some_iff] at e; obtain ⟨⟨ds, env1⟩, e1, e⟩ := e
  rw [Option.bind_eq_some_iff] at e; obtain ⟨⟨ds2, env2⟩, e2, e⟩ := e
  rw [Option.bind_eq_some_iff] at e; obtain ⟨⟨r, outs⟩, e3, e⟩ := e
  rw [Option.map_eq_some_iff] at e; obtain ⟨env3, e4, e⟩ := e
  simp only [Prod.mk.injEq] at e
  obtain ⟨rfl, rfl⟩ := e
  refine ⟨F, env, O, ds, env1, st, e1, fun vs H1 O1 ex1 st1 hl av => ?_⟩
  obtain ⟨O2, sub2, st2, hl2, hle⟩ := fill_ok st1 hl av e2 hb
  have hnp : ds2.length = np := by rw [hl2, ← hl, ← hal]; exact evA_len e1
  obtain ⟨OP, OR, rfl, st3, back⟩ := St.head (P := ds2) (pv := vs.map some) st2 (by simp [hl2])
  obtain ⟨O3, pm3, st3'⟩ := st3.perm (js := js) (by rw [hnp]; exact hj)
  rw [permD_map] at st3'
  have hg : gK np js [] vs = permD js vs := if_pos (by rw [← hl2, hnp])
  rw [hg]
  refine ⟨by rw [permD_len (by rw [← hl2, hnp]; exact hj), ← hl2, hnp], _, _, O3, r, outs, st3', e3, fun v H2 O4 ex4 st4 => ?_⟩
  obtain ⟨OX, OY, e9, sY, backY⟩ := St.tail (P := [r]) (pv := [some v]) (R := outs) (rv := (permD js vs).map some) st4 rfl
  have hlo : outs.length = np := by
    have h1 := sY.rep.len
    rw [List.length_map, permD_len (by rw [← hl2, hnp]; exact hj), ← hl2, hnp] at h1
    exact h1.symm
  obtain ⟨OZ, pmZ, sZ⟩ := sY.perm (js := ix) (by rw [hlo]; exact hi)
  rw [permD_map, permD_inv (by rw [← hl2, hnp]; exact hx)] at sZ
  obtain ⟨exZ, st5⟩ := backY _ _ _ H2 (Ext.refl.perm pmZ) sZ
  obtain ⟨ex6, st6⟩ := back _ _ _ _ ((ex4.perm' pm3).trans exZ) st5
  obtain ⟨OP2, OR2, e10, st7, back7⟩ := St.tail (P := [r]) (pv := [some v]) (R := permD ix outs ++ env2) (rv := vs.map some ++ σ) st6 rfl
  have hle2 : env2.length = σ.length := by
    have h1 := st2.rep.len
    simp only [List.length_append, List.length_map] at h1
    omega
  obtain ⟨O8, sub8, st8⟩ := back_ok st7 (by rw [permD_len (by rw [hlo]; exact hi), hlo, ← hnp, hl2]) av e4 hle2
  obtain ⟨ex9, st9⟩ := back7 _ _ _ H2 (Ext.refl.less sub8) st8
  exact post v H2 _ ((ex1.less sub2).trans (ex6.trans ex9)) st9
end
end OE

/-! Oe14: does an expression of the text read so? -/
namespace OE
open PySem PySem.Spec PyProof.Rows L2

/-- the slots' names; the functions' names and parameters; the keyword calls: function, names as written, for each parameter its place -/
structure Mc where
  N : List Str
  fs : List (Str × List Str)
  kl : List (Nat × List Str × List Nat)
def gnB (sc : Scope) (n : Str) : Expr → Bool
  | .Name m _ => decide (m = n) && glB sc m
  | _ => false
def bfN : Bf → Str
  | .len => "len" | .sum => "sum" | .sumL => "sum" | .min => "min" | .max => "max" | .abs => "abs" | .int => "int" | .list => "list" | .tuple => "tuple"
  | .sorted => "sorted" | .all => "all" | .any => "any" | .bits => "bit_length" | .repr => "repr"
def tyNameB (sc : Scope) (t : Ty) : Expr → Bool
  | .Name m _ => decide (m = Str.ofString (tyV' t)) && glB sc m
  | _ => false
def tyNamesB (sc : Scope) : List Ty → List Expr → Bool
  | [], [] => true
  | t :: ts, x :: xs => tyNameB sc t x && tyNamesB sc ts xs
  | _, _ => false
def tysB (sc : Scope) : List Ty → Expr → Bool
  | ts, .Tuple xs _ _ => tyNamesB sc ts xs && decide (ts ≠ []) && decide (ts.length ≤ 100)
  | [t], x => tyNameB sc t x
  | _, _ => false
def isName : Expr → Bool
  | .Name .. => true
  | _ => false
def isTuple : Expr → Bool
  | .Tuple .. => true
  | _ => false
def ownP (N : List Str) (own : List Nat) : List (Str × Nat) := own.map fun i => (N.getD i "", i)
def callB (M : Mc) (sc : Scope) (f : Nat) : Expr → Bool
  | .Name n _ => glB sc n && decide (M.fs[f]?.map (·.1) = some n)
  | _ => false
def kwB (M : Mc) (f : Nat) (as : As) (js ix : List Nat) (ks : List Str) : Bool :=
  !hasBw as && decide ((f, ks, js) ∈ M.kl) && (match M.fs[f]? with
    | some (_, ps) => decide (asLen as = ps.length) && decide (js.Perm (List.range ps.length)) && decide (ix.Perm (List.range ps.length)) && decide (permD ix (permD js (List.range ps.length)) = List.range ps.length)
    | none => false)
/-- a block's scope, as it stands in a scope -/
def relS (scope sc : Scope) : Scope :=
  { scope with names := scope.names.map fun (n, k) => if (k == .free && sc.kind == .function && sc.names.lookup n == some .cell) then (n, .cell) else (n, k) }
mutual
def mE (M : Mc) : E → Scope → Expr → Bool
  | .sh i, sc, x => nameB M.N sc i x
  | .mv i, sc, x => nameB M.N sc i x
  | .pk i xs, sc, x => plB M.N sc i xs x
  | .len i xs, sc, x => match x with
    | .Call f [a] [] _ => gnB sc "len" f && plB M.N sc i xs a
    | _ => false
  | .emp i xs neg, sc, x => match x with
    | .Compare a [op] [.List [] _] _ => decide (op = if neg = true then .NotEq else .Eq) && plB M.N sc i xs a
    | _ => false
  | .non, _, x => match x with | .Constant .none _ _ => true | _ => false
  | .bl b, _, x => match x with | .Constant (.bool c) _ _ => decide (b = c) | _ => false
  | .int i, _, x => match x with | .Constant (.int j) _ _ => decide (i = j) | _ => false
  | .str s, _, x => match x with | .Constant (.str t) _ _ => decide (s = t) | _ => false
  | .tup es, sc, x => match x with | .Tuple xs _ _ => mEs M es sc xs | _ => false
  | .lst es, sc, x => match x with | .List xs _ => mEs M es sc xs | _ => false
  | .bin op a b, sc, x => match x with | .BinOp y o z _ => decide (o = bopOf op) && mE M a sc y && mE M b sc z | _ => false
  | .neg a, sc, x => match x with | .UnaryOp .USub y _ => mE M a sc y | _ => false
  | .not a, sc, x => match x with | .UnaryOp .Not y _ => mE M a sc y | _ => false
  | .cmp op a b, sc, x => match x with | .Compare y [o] [z] _ => decide (o = copOf op) && mE M a sc y && mE M b sc z && plainX z | _ => false
  | .chain o1 o2 a b c, sc, x => match x with | .Compare y [q1, q2] [z, u] _ => decide (q1 = copOf o1) && decide (q2 = copOf o2) && mE M a sc y && mE M b sc z && mE M c sc u && plainX u | _ => false
  | .and es, sc, x => match x with | .BoolOp .And (y :: ys) _ => mEs M es sc (y :: ys) | _ => false
  | .or es, sc, x => match x with | .BoolOp .Or (y :: ys) _ => mEs M es sc (y :: ys) | _ => false
  | .ite c a b, sc, x => match x with | .IfExp y z u _ => mE M c sc y && mE M a sc z && mE M b sc u | _ => false
  | .sub a i, sc, x => match x with | .Subscript y z _ => mE M a sc y && mE M i sc z && plainX z | _ => false
  | .slc a fl lo fh hi, sc, x => match x with
    | .Subscript y (.Slice l h none _) _ => mE M a sc y && (match l with | some l => fl && mE M lo sc l | none => !fl) && (match h with | some h => fh && mE M hi sc h | none => !fh)
    | _ => false
  | .rvs a, sc, x => match x with
    | .Subscript y (.Slice none none (some (.UnaryOp .USub (.Constant (.int i) _ _) _)) _) _ => decide (i = 1) && mE M a sc y
    | _ => false
  | .call f as, sc, x => match x with | .Call g xs [] _ => callB M sc f g && mAs M as sc xs | _ => false
  | .callK f as js ix, sc, x => match x with | .Call g [] kws _ => callB M sc f g && mKs M as sc kws && kwB M f as js ix (kws.filterMap (·.arg)) | _ => false
  | .blt b es, sc, x => match x with
    | .Call (.Name n _) (y :: ys) [] _ => decide (n = bfN b) && decide (b ≠ .bits) && glB sc n && mEs M es sc (y :: ys)
    | .Call (.Attribute (.Name n p) m ap) [] [] pos => decide (b = .bits) && decide (m = "bit_length") && mEs M es sc [.Name n p] && decide (ap.endLine = pos.line)
    | _ => false
  | .isI a ts, sc, x => match x with | .Call f [y, z] [] _ => gnB sc "isinstance" f && mE M a sc y && plainX y && tysB sc ts z | _ => false
  | .comp own elt tg it c cond, sc, x => match x with
    | .ListComp e [⟨t, i, ifs, 0⟩] scope _ => mI M it sc t i && plainX i && blkC M.N sc scope (ownP M.N own) && tgB M.N scope tg t && tgB M.N (relS scope sc) tg t && (tgS tg).all (fun j => decide (j ∈ own)) && mE M elt (relS scope sc) e &&
      (match c, ifs with | none, [] => true | some _, [d] => mE M cond (relS scope sc) d | _, _ => false)
    | _ => false
  | .comp2 own own2 elt tg it tg2 it2, sc, x => match x with
    | .ListComp e [⟨t, i, [], 0⟩, ⟨t2, i2, [], 0⟩] scope _ => mI M it sc t i && plainX i && blkC M.N sc scope (ownP M.N own) && tgB M.N scope tg t && tgB M.N (relS scope sc) tg t && (tgS tg).all (fun j => decide (j ∈ own)) && mE M elt (relS scope sc) e &&
      mI M it2 (relS scope sc) t2 i2 && plainX i2 && tgB M.N scope tg2 t2 && tgB M.N (relS scope sc) tg2 t2 && (tgS tg2).all (fun j => decide (j ∈ own2)) && own2.all (fun j => decide (j ∈ own))
    | _ => false
  | .eqp i xs j ys neg, sc, x => match x with
    | .Compare a [op] [b] _ => decide (op = if neg = true then .NotEq else .Eq) && plB M.N sc i xs a && plB M.N sc j ys b
    | _ => false
  | .srtp i xs, sc, x => match x with
    | .Call f [a] [] _ => gnB sc "sorted" f && plB M.N sc i xs a
    | _ => false
  | .inp i xs j ys neg, sc, x => match x with
    | .Compare a [op] [b] _ => decide (op = if neg = true then .NotIn else .In) && plB M.N sc i xs a && plB M.N sc j ys b
    | _ => false
  | .nonp i xs neg, sc, x => match x with
    | .Compare a [op] [.Constant .none _ _] _ => decide (op = if neg = true then .IsNot else .Is) && plB M.N sc i xs a
    | _ => false
  | .catp i xs j ys, sc, x => match x with
    | .BinOp a o b _ => decide (o = .Add) && plB M.N sc i xs a && plB M.N sc j ys b
    | _ => false
  | .lrg1 a, sc, x => match x with
    | .Call g [.Call f [y] [] _] [] _ => gnB sc "list" g && gnB sc "range" f && mE M a sc y && plainX y
    | _ => false
  | .lrg2 a b, sc, x => match x with
    | .Call g [.Call f [y, z] [] _] [] _ => gnB sc "list" g && gnB sc "range" f && mE M a sc y && plainX y && mE M b sc z && plainX z
    | _ => false
  | .pop i es, sc, x => match x with
    | .Call (.Attribute (.Name n p) m ap) ys [] pos => decide (m = "pop") && nameB M.N sc i (.Name n p) && decide (ap.endLine = pos.line) && decide (ys.length ≤ 1) && mEs M es sc ys
    | _ => false
def mEs (M : Mc) : Es → Scope → List Expr → Bool
  | .nil, _, xs => match xs with | [] => true | _ => false
  | .cons e es, sc, xs => match xs with | x :: r => mE M e sc x && plainX x && mEs M es sc r | [] => false
def mAs (M : Mc) : As → Scope → List Expr → Bool
  | .nil, _, xs => match xs with | [] => true | _ => false
  | .ex e r, sc, xs => match xs with | x :: t => mE M e sc x && plainX x && mAs M r sc t | [] => false
  | .io i r, sc, xs => match xs with | x :: t => nameB M.N sc i x && plainX x && mAs M r sc t | [] => false
  | .bw i r, sc, xs => match xs with | x :: t => nameB M.N sc i x && plainX x && mAs M r sc t | [] => false
def mKs (M : Mc) : As → Scope → List Keyword → Bool
  | .nil, _, xs => match xs with | [] => true | _ => false
  | .ex e r, sc, xs => match xs with | ⟨some _, x, _⟩ :: t => mE M e sc x && mKs M r sc t | _ => false
  | .io i r, sc, xs => match xs with | ⟨some _, x, _⟩ :: t => nameB M.N sc i x && mKs M r sc t | _ => false
  | .bw i r, sc, xs => match xs with | ⟨some _, x, _⟩ :: t => nameB M.N sc i x && mKs M r sc t | _ => false
def mI (M : Mc) : It → Scope → Expr → Expr → Bool
  | .e a, sc, _, x => mE M a sc x
  | .bor i, sc, _, x => nameB M.N sc i x
  | .rng1 a, sc, _, x => match x with | .Call f [y] [] _ => gnB sc "range" f && mE M a sc y && plainX y | _ => false
  | .rng2 a b, sc, _, x => match x with | .Call f [y, z] [] _ => gnB sc "range" f && mE M a sc y && plainX y && mE M b sc z && plainX z | _ => false
  | .enum a, sc, t, x => match x with | .Call f [y] [] _ => gnB sc "enumerate" f && mE M a sc y && plainX y && isTuple t | _ => false
  | .enumB i, sc, t, x => match x with | .Call f [y] [] _ => gnB sc "enumerate" f && nameB M.N sc i y && plainX y && isTuple t | _ => false
  | .rev a, sc, _, x => match x with | .Call f [y] [] _ => gnB sc "reversed" f && mE M a sc y && plainX y | _ => false
end

/-- what is known of the context -/
structure OkM (X : Cx) (k : Nat) (Γ : Fns) (M : Mc) : Prop where
  calm : X.calm = true
  nd : X.N.Nodup
  N : X.N = M.N
  room : Room k X.A
  gd : quietA X.A
  blt : ∀ n ∈ bltNames, X.mg n = none
  fns : ∀ f nm ps, M.fs[f]? = some (nm, ps) → ∃ (addr : Addr) (fd : FuncData), X.mg nm = some (.ref addr) ∧ FnG X.prog X.w X.K X.mg X.base CX0 k addr fd ps (spD X.K ps.length (Γ f)) ∧ PySem.W.keepIn X.K (.ref addr) = true ∧ Binds X.K fd ps [] ∧
    ∀ ks js, (f, ks, js) ∈ M.kl → KBinds X.K fd ps ks (gK ps.length js) (gK ps.length js)
  len : ∀ f nm ps, M.fs[f]? = some (nm, ps) → ∀ ds r, Γ f ds = some r → ds.length = ps.length
theorem OkM.units {X : Cx} {k : Nat} {Γ : Fns} {M : Mc} (ok : OkM X k Γ M) : X.A.units + 64 < cLine := ok.room.units
theorem OkM.blk {X : Cx} {k : Nat} {Γ : Fns} {M : Mc} (ok : OkM X k Γ M) (s : Shared) (H : Hp) (scope : Scope) (C : Addr) (cl : List (Str × Addr)) (fp : List Addr) : OkM (X.blk s H scope (compEnvC scope cl C X.env) fp) k Γ M :=
  ⟨ok.calm, ok.nd, ok.N, ok.room, ok.gd, ok.blt, ok.fns, ok.len⟩
theorem _root_.L2.PE.impN {X : Cx} {e : Expr} {t t' : TE} (h : PE X e t) (i : ∀ σ H Q, σ.length = X.N.length → t' σ H Q → t σ H Q) : PE X e t' := ⟨fun pins s σ H Q I w => h.run pins s σ H Q I (i σ H Q I.len w)⟩
section
variable {X : Cx} {K : PySem.W.Frag} {Γ : Fns} {ios : List Nat} {k : Nat} {M : Mc} {x y : Expr} {e : E}
theorem pt_gen {m : List D → Option (D × List D)} (h : PE X x (tE X.K m)) (he : ∀ whole, isTrue x X.env whole = (do let v ← whole; standAt x.pos; holding [v] (truthy v)) := by intro _; rfl) : PT X x (tT X.K m) :=
  (pt_val h he).imp fun σ H Q w => tE_tT w
theorem pt_iteD {a b c : Expr} {ea eb ec : E} {pos : Pos} (hc : PT X c (tT X.K (ev Γ ios ec))) (ha : PT X a (tT X.K (ev Γ ios ea))) (hb : PT X b (tT X.K (ev Γ ios eb))) : PT X (.IfExp c a b pos) (tT X.K (ev Γ ios (.ite ec ea eb))) := by
  refine ⟨fun pins s σ H Q I h => ?_⟩
  obtain ⟨F, env, O, d, env', st, e, post⟩ := h
  simp only [ev] at e
  rw [Option.bind_eq_some_iff] at e; obtain ⟨⟨dc, env1⟩, e1, e⟩ := e
  cases dc <;> simp only [reduceCtorEq] at e
  rename_i bb
  have hw : tT X.K (ev Γ ios ec) σ H fun b' H1 => if b' = true then tT X.K (ev Γ ios ea) σ H1 Q else tT X.K (ev Γ ios eb) σ H1 Q := by
    refine ⟨F, env, O, bb, env1, st, e1, fun H1 O1 ex1 st1 => ?_⟩
    cases bb with
    | true => rw [if_pos rfl]; exact ⟨F, env1, O1, d, env', st1, e, fun H2 O2 ex2 st2 => post H2 O2 (ex1.trans ex2) st2⟩
    | false => rw [if_neg (by simp)]; exact ⟨F, env1, O1, d, env', st1, e, fun H2 O2 ex2 st2 => post H2 O2 (ex1.trans ex2) st2⟩
  refine isTrue_IfExp (thn (hc.run pins s σ H _ I hw) fun b' s1 ⟨H1, I1, q1⟩ => ?_)
  cases b' with
  | true => rw [if_pos rfl] at q1; exact ha.run pins s1 σ H1 Q I1 q1
  | false => rw [if_neg (by simp)] at q1; exact hb.run pins s1 σ H1 Q I1 q1
/-- a target's names -/
theorem tgB_names {N : List Str} {sc : Scope} {tg : Tg} {t y : Expr} {n : Str} {p : Pos} (h : tgB N sc tg t = true) (hy : y = t ∨ ∃ ys kk pp, t = .Tuple ys kk pp ∧ y ∈ ys) (e : y = .Name n p) : sc.names.lookup n = some .local ∨ sc.names.lookup n = some .cell := by
  have key : ∀ {i : Nat} {y : Expr}, nameLB N sc i y = true → y = .Name n p → sc.names.lookup n = some .local ∨ sc.names.lookup n = some .cell := by
    intro i y h e
    subst e
    simp only [nameLB, Bool.and_eq_true, locB] at h
    have h2 := h.2
    split at h2
    · rename_i h3; exact .inl h3
    · rename_i h3; exact .inr h3
    · cases h2
  have keys : ∀ {is : List Nat} {xs : List Expr}, namesLB N sc is xs = true → y ∈ xs → y = .Name n p → sc.names.lookup n = some .local ∨ sc.names.lookup n = some .cell := by
    intro is xs
    induction xs generalizing is with
    | nil => intro _ hm; cases hm
    | cons x xs ih =>
      intro h hm e
      cases is with
      | nil => simp [namesLB] at h
      | cons i is =>
        simp only [namesLB, Bool.and_eq_true] at h
        rcases List.mem_cons.mp hm with rfl | hm
        · exact key h.1 e
        · exact ih h.2 hm e
  cases tg with
  | nm i =>
    simp only [tgB] at h
    rcases hy with rfl | ⟨ys, kk, pp, rfl, hm⟩
    · exact key h e
    · simp [nameLB] at h
  | tp is =>
    rcases hy with rfl | ⟨ys, kk, pp, rfl, hm⟩
    · subst e; simp [tgB] at h
    · exact keys h hm e
theorem OkM.pg (ok : OkM X k Γ M) (hf : ∀ n, X.fn n = true) {tg : Tg} {t : Expr} (h : tgB X.N X.env.scope tg t = true) : PG X t (tG X.K ios tg) := pg_tgB ok.nd ok.calm h fun y n p hy e => .inl (hf n)
theorem OkM.pgB (ok : OkM X k Γ M) {tg : Tg} {t : Expr} {scope : Scope} (h : tgB X.N scope tg t = true) (h2 : tgB X.N (relS scope X.env.scope) tg t = true) (s : Shared) (H : Hp) (C : Addr) (cl : List (Str × Addr)) (fp : List Addr) :
    PG (X.blk s H scope (compEnvC scope cl C X.env) fp) t (tG X.K ios tg) := by
  refine pg_tgB (X := X.blk s H scope (compEnvC scope cl C X.env) fp) ok.nd ok.calm h2 fun y n p hy e => ?_
  rcases tgB_names h hy e with q | q
  · exact .inr (lookup_relabel_local q)
  · left
    show (scope.names.lookup n == some .cell) = true
    rw [q]; rfl
theorem gnB_ok {n : Str} {f : Expr} (h : gnB X.env.scope n f = true) : ∃ p, f = .Name n p ∧ glB X.env.scope n = true := by
  cases f <;> simp only [gnB, Bool.false_eq_true, Bool.and_eq_true, decide_eq_true_eq] at h
  obtain ⟨rfl, h⟩ := h
  exact ⟨_, rfl, h⟩
end
end OE

/-! Oe15: every expression that reads so comes to what the evaluator says. -/
namespace OE
open PySem PySem.Spec PyProof.Rows L2

theorem _root_.L2.PA.imp {X : Cx} {e : List Expr} {t t' : TA} (h : PA X e t) (i : ∀ σ H Q, t' σ H Q → t σ H Q) : PA X e t' := ⟨fun pos pins s σ H Q I w => h.run pos pins s σ H Q I (i σ H Q w)⟩
theorem _root_.L2.PK.imp {X : Cx} {e : List Keyword} {t t' : TA} (h : PK X e t) (i : ∀ σ H Q, t' σ H Q → t σ H Q) : PK X e t' := ⟨fun pos pins s σ H Q I w => h.run pos pins s σ H Q I (i σ H Q w)⟩
section
variable {X : Cx} {Γ : Fns} {ios : List Nat} {k : Nat} {M : Mc}
theorem callB_ok (ok : OkM X k Γ M) {f : Nat} {g : Expr} (h : callB M X.env.scope f g = true) : ∃ n p ps addr fd, g = .Name n p ∧ M.fs[f]? = some (n, ps) ∧ Gl X n ∧ (n == ("__debug__" : Str)) = false ∧ X.mg n = some (.ref addr) ∧ FnG X.prog X.w X.K X.mg X.base CX0 k addr fd ps (spD X.K ps.length (Γ f)) ∧
    PySem.W.keepIn X.K (.ref addr) = true ∧ Binds X.K fd ps [] ∧ (∀ ks js, (f, ks, js) ∈ M.kl → KBinds X.K fd ps ks (gK ps.length js) (gK ps.length js)) ∧ ∀ ds r, Γ f ds = some r → ds.length = ps.length := by
  cases g <;> simp only [callB, Bool.false_eq_true, Bool.and_eq_true, decide_eq_true_eq] at h
  rename_i n p
  obtain ⟨hg, h⟩ := h
  rw [Option.map_eq_some_iff] at h
  obtain ⟨⟨nm, ps⟩, h, e⟩ := h
  have e' : nm = n := e
  rw [e'] at h
  obtain ⟨addr, fd, h1, h2, h3, h4, h5⟩ := ok.fns f n ps h
  obtain ⟨g1, g2, g3⟩ := glB_ok hg
  exact ⟨n, p, ps, addr, fd, rfl, h, g1, g3, h1, h2, h3, h4, h5, ok.len f n ps h⟩
theorem isName_ok {x : Expr} (h : isName x = true) : ∃ n p, x = .Name n p := by
  cases x <;> simp [isName] at h
  exact ⟨_, _, rfl⟩
theorem isTuple_ok {x : Expr} (h : isTuple x = true) : ∃ xs kk p, x = .Tuple xs kk p := by
  cases x <;> simp [isTuple] at h
  exact ⟨_, _, _, rfl⟩
theorem nameB_name {N : List Str} {sc : Scope} {i : Nat} {x : Expr} (h : nameB N sc i x = true) : ∃ n p, x = .Name n p := by
  cases x <;> simp [nameB] at h
  exact ⟨_, _, rfl⟩
theorem nameB_parts {N : List Str} {sc : Scope} {i : Nat} {n : Str} {p : Pos} (h : nameB N sc i (.Name n p) = true) : N[i]? = some n ∧ Vis sc n ∧ (n == ("__debug__" : Str)) = false ∧ (n == ("__classdict__" : Str)) = false := by
  simp only [nameB, Bool.and_eq_true, decide_eq_true_eq, Bool.not_eq_true'] at h
  exact ⟨h.1.1.1, visB_ok h.1.1.2, h.1.2, h.2⟩
theorem mKs_some : ∀ {as : As} {sc : Scope} {kws : List Keyword} {pos : Pos} {env : Env}, mKs M as sc kws = true → (backToKw pos (keywordEach kws env)).all (·.1.isSome) = true ∧ (backToKw pos (keywordEach kws env)).any (·.1.isNone) = false ∧
    (backToKw pos (keywordEach kws env)).filterMap (·.1) = kws.filterMap (·.arg)
  | .nil, sc, [], pos, env, h => ⟨rfl, rfl, rfl⟩
  | .nil, sc, _ :: _, pos, env, h => by simp [mKs] at h
  | .ex e r, sc, [], pos, env, h => by simp [mKs] at h
  | .io e r, sc, [], pos, env, h => by simp [mKs] at h
  | .bw e r, sc, [], pos, env, h => by simp [mKs] at h
  | .ex e r, sc, ⟨none, x, p⟩ :: t, pos, env, h => by simp [mKs] at h
  | .io e r, sc, ⟨none, x, p⟩ :: t, pos, env, h => by simp [mKs] at h
  | .bw e r, sc, ⟨none, x, p⟩ :: t, pos, env, h => by simp [mKs] at h
  | .ex e r, sc, ⟨some n, x, p⟩ :: t, pos, env, h => by
    simp only [mKs, Bool.and_eq_true] at h
    obtain ⟨h1, h2, h3⟩ := mKs_some (as := r) (pos := pos) (env := env) h.2
    refine ⟨?_, ?_, ?_⟩
    · show (_ && (backToKw pos (keywordEach t env)).all (·.1.isSome)) = true
      rw [h1]; rfl
    · show (_ || (backToKw pos (keywordEach t env)).any (·.1.isNone)) = false
      rw [h2]; rfl
    · show n :: (backToKw pos (keywordEach t env)).filterMap (·.1) = n :: t.filterMap (·.arg)
      rw [h3]
  | .io e r, sc, ⟨some n, x, p⟩ :: t, pos, env, h => by
    simp only [mKs, Bool.and_eq_true] at h
    obtain ⟨h1, h2, h3⟩ := mKs_some (as := r) (pos := pos) (env := env) h.2
    refine ⟨?_, ?_, ?_⟩
    · show (_ && (backToKw pos (keywordEach t env)).all (·.1.isSome)) = true
      rw [h1]; rfl
    · show (_ || (backToKw pos (keywordEach t env)).any (·.1.isNone)) = false
      rw [h2]; rfl
    · show n :: (backToKw pos (keywordEach t env)).filterMap (·.1) = n :: t.filterMap (·.arg)
      rw [h3]
  | .bw e r, sc, ⟨some n, x, p⟩ :: t, pos, env, h => by
    simp only [mKs, Bool.and_eq_true] at h
    obtain ⟨h1, h2, h3⟩ := mKs_some (as := r) (pos := pos) (env := env) h.2
    refine ⟨?_, ?_, ?_⟩
    · show (_ && (backToKw pos (keywordEach t env)).all (·.1.isSome)) = true
      rw [h1]; rfl
    · show (_ || (backToKw pos (keywordEach t env)).any (·.1.isNone)) = false
      rw [h2]; rfl
    · show n :: (backToKw pos (keywordEach t env)).filterMap (·.1) = n :: t.filterMap (·.arg)
      rw [h3]
theorem ownP_snd (N : List Str) (own : List Nat) : (ownP N own).map (·.2) = own := by
  rw [ownP, List.map_map]; exact List.map_id' own
theorem tyNamesB_len {sc : Scope} : ∀ {ts : List Ty} {xs : List Expr}, tyNamesB sc ts xs = true → xs.length = ts.length ∧ ∀ (j : Nat) (t : Ty) (x : Expr), ts[j]? = some t → xs[j]? = some x → tyNameB sc t x = true
  | [], [], _ => ⟨rfl, fun j t x h => by simp at h⟩
  | [], _ :: _, h => by simp [tyNamesB] at h
  | _ :: _, [], h => by simp [tyNamesB] at h
  | t :: ts, x :: xs, h => by
    simp only [tyNamesB, Bool.and_eq_true] at h
    obtain ⟨h1, h2⟩ := tyNamesB_len h.2
    refine ⟨by simp [h1], fun j t' x' e1 e2 => ?_⟩
    cases j with
    | zero =>
      simp only [List.getElem?_cons_zero, Option.some.injEq] at e1 e2
      subst e1 e2; exact h.1
    | succ j => exact h2 j t' x' (by simpa using e1) (by simpa using e2)
theorem tyNameB_ok {sc : Scope} {t : Ty} {x : Expr} (h : tyNameB sc t x = true) : ∃ m p, x = .Name m p ∧ glB sc m = true ∧ m = Str.ofString (tyV' t) ∧ m ∈ bltNames := by
  cases x <;> simp only [tyNameB, Bool.false_eq_true, Bool.and_eq_true, decide_eq_true_eq] at h
  refine ⟨_, _, rfl, h.2, h.1, ?_⟩
  rw [h.1]
  cases t <;> decide
theorem pe_bltD (ok : OkM X k Γ M) {b : Bf} {n : Str} {p pos : Pos} {y : Expr} {ys : List Expr} {es : Es} (hn : n = bfN b) (hb : b ≠ .bits) (hg : glB X.env.scope n = true) (ha : PA X (y :: ys) (tA X.K (evs Γ ios es))) (hp : (y :: ys).all plainX = true) :
    PE X (.Call (.Name n p) (y :: ys) [] pos) (tE X.K (ev Γ ios (.blt b es))) := by
  subst hn
  have hm : X.mg (bfN b) = none := by
    cases b <;> first | exact absurd rfl hb | exact ok.blt _ (by decide)
  cases b
  case len => exact pe_bltB call_lenD hg hm (by decide +kernel) ha hp
  case sum => exact pe_bltB (call_sumD ok.calm) hg hm (by decide +kernel) ha hp
  case sumL => exact pe_bltB (call_sumLD ok.calm) hg hm (by decide +kernel) ha hp
  case min => exact pe_bltB (call_minD ok.calm) hg hm (by decide +kernel) ha hp
  case max => exact pe_bltB (call_maxD ok.calm) hg hm (by decide +kernel) ha hp
  case abs => exact pe_bltB call_absD hg hm (by decide +kernel) ha hp
  case int => exact pe_bltT call_intD hg hm (by decide +kernel) ha hp
  case list => exact pe_bltT call_listD hg hm (by decide +kernel) ha hp
  case tuple => exact pe_bltT call_tupleD hg hm (by decide +kernel) ha hp
  case sorted => exact pe_bltB call_sortedD hg hm (by decide +kernel) ha hp
  case all => exact pe_bltB (call_allD ok.calm) hg hm (by decide +kernel) ha hp
  case any => exact pe_bltB (call_anyD ok.calm) hg hm (by decide +kernel) ha hp
  case bits => exact absurd rfl hb
  case repr => exact pe_bltB (call_reprD ok.gd ok.units) hg hm (by decide +kernel) ha hp
end
end OE

/-! Oe16: every expression that reads so comes to what the evaluator says. -/
namespace OE
open PySem PySem.Spec PyProof.Rows L2

theorem passC {X : Cx} {E : XK} : Passes CX0 X E := fun _ _ _ _ _ _ _ h => h.elim
theorem both {X : Cx} {x : Expr} {m : List D → Option (D × List D)} (h : PE X x (tE X.K m)) (he : ∀ whole, isTrue x X.env whole = (do let v ← whole; standAt x.pos; holding [v] (truthy v)) := by intro _; rfl) : PE X x (tE X.K m) ∧ PT X x (tT X.K m) := ⟨h, pt_gen h he⟩
section
variable {Γ : Fns} {k : Nat} {M : Mc}
mutual
theorem eOk : ∀ (e : E) {X : Cx} {ios : List Nat} (ok : OkM X k Γ M) {x : Expr}, mE M e X.env.scope x = true → PE X x (tE X.K (ev Γ ios e)) ∧ PT X x (tT X.K (ev Γ ios e))
  | .sh i, X, ios, ok, x, h => by
    simp only [mE, ← ok.N] at h
    obtain ⟨n, p, rfl⟩ := nameB_name h
    obtain ⟨h1, h2, h3, h4⟩ := nameB_parts h
    have := pe_sh (K := X.K) (Γ := Γ) (ios := ios) (pos := p) h1 h2 h3 h4
    exact ⟨this, pt_gen this⟩
  | .mv i, X, ios, ok, x, h => by
    simp only [mE, ← ok.N] at h
    obtain ⟨n, p, rfl⟩ := nameB_name h
    obtain ⟨h1, h2, h3, h4⟩ := nameB_parts h
    have := pe_mv (K := X.K) (Γ := Γ) (ios := ios) (pos := p) h1 h2 h3 h4
    exact ⟨this, pt_gen this⟩
  | .pk i xs, X, ios, ok, x, h => by
    simp only [mE, ← ok.N] at h
    have := pe_pkD (Γ := Γ) (ios := ios) h
    refine ⟨this, pt_gen this ?_⟩
    cases xs with
    | nil => obtain ⟨n, p, rfl⟩ := nameB_name (by simpa only [plB] using h); intro _; rfl
    | cons ix r => cases x <;> simp only [plB, Bool.false_eq_true] at h; intro _; rfl
  | .len i xs, X, ios, ok, x, h => by
    simp only [mE, ← ok.N] at h
    split at h
    · simp only [Bool.and_eq_true] at h
      obtain ⟨p, rfl, hg⟩ := gnB_ok h.1
      exact both (pe_lenD (Γ := Γ) (ios := ios) (p := p) (ok.blt "len" (by decide)) hg h.2)
    · cases h
  | .emp i xs neg, X, ios, ok, x, h => by
    simp only [mE, ← ok.N] at h
    split at h
    · simp only [Bool.and_eq_true, decide_eq_true_eq] at h
      obtain ⟨rfl, h⟩ := h
      cases neg with
      | true => exact ⟨pe_empD' ok.units h, pt_empD' ok.units h⟩
      | false => exact ⟨pe_empD ok.units h, pt_empD ok.units h⟩
    · cases h
  | .non, X, ios, ok, x, h => by
    simp only [mE] at h
    split at h
    · exact both (pe_flat (K := X.K) (Γ := Γ) (ios := ios) (e := .non) (v := .non) (d := .non) (pe_non (X := X)) (fun env => by simp only [ev]) (fun A H => by simp [Rep]))
    · cases h
  | .bl b, X, ios, ok, x, h => by
    simp only [mE] at h
    split at h
    · obtain rfl := of_decide_eq_true h
      exact both (pe_flat (K := X.K) (Γ := Γ) (ios := ios) (e := .bl b) (v := .bl b) (d := .bl b) (pe_bl (X := X)) (fun env => by simp only [ev]) (fun A H => by simp [Rep]))
    · cases h
  | .int i, X, ios, ok, x, h => by
    simp only [mE] at h
    split at h
    · obtain rfl := of_decide_eq_true h
      exact both (pe_flat (K := X.K) (Γ := Γ) (ios := ios) (e := .int i) (v := .int i) (d := .int i) (pe_int (X := X)) (fun env => by simp only [ev]) (fun A H => by simp [Rep]))
    · cases h
  | .str i, X, ios, ok, x, h => by
    simp only [mE] at h
    split at h
    · obtain rfl := of_decide_eq_true h
      exact both (pe_flat (K := X.K) (Γ := Γ) (ios := ios) (e := .str i) (v := .str i) (d := .str i) (pe_str (X := X)) (fun env => by simp only [ev]) (fun A H => by simp [Rep]))
    · cases h
  | .tup es, X, ios, ok, x, h => by
    simp only [mE] at h
    split at h
    · exact both (pe_tupD (esOk es (ios := ios) ok h).1)
    · cases h
  | .lst es, X, ios, ok, x, h => by
    simp only [mE] at h
    split at h
    · exact both (pe_lstD (esOk es (ios := ios) ok h).1)
    · cases h
  | .bin op a b, X, ios, ok, x, h => by
    simp only [mE] at h
    split at h
    · simp only [Bool.and_eq_true, decide_eq_true_eq] at h
      obtain ⟨⟨rfl, ha⟩, hb⟩ := h
      exact both (pe_binD (op := op) (eOk a (ios := ios) ok ha).1 (eOk b (ios := ios) ok hb).1)
    · cases h
  | .neg a, X, ios, ok, x, h => by
    simp only [mE] at h
    split at h
    · exact both (pe_negD (eOk a (ios := ios) ok h).1)
    · cases h
  | .not a, X, ios, ok, x, h => by
    simp only [mE] at h
    split at h
    · exact ⟨pe_notD (eOk a (ios := ios) ok h).1, pt_notD (eOk a (ios := ios) ok h).2⟩
    · cases h
  | .cmp op a b, X, ios, ok, x, h => by
    simp only [mE] at h
    split at h
    · simp only [Bool.and_eq_true, decide_eq_true_eq] at h
      obtain ⟨⟨⟨rfl, ha⟩, hb⟩, hp⟩ := h
      exact ⟨pe_cmpD ok.units (eOk a (ios := ios) ok ha).1 (eOk b (ios := ios) ok hb).1 hp, pt_cmpD ok.units (eOk a (ios := ios) ok ha).1 (eOk b (ios := ios) ok hb).1 hp⟩
    · cases h
  | .chain o1 o2 a b c, X, ios, ok, x, h => by
    simp only [mE] at h
    split at h
    · simp only [Bool.and_eq_true, decide_eq_true_eq] at h
      obtain ⟨⟨⟨⟨⟨rfl, rfl⟩, ha⟩, hb⟩, hc⟩, hp⟩ := h
      exact ⟨pe_chainD (eOk a (ios := ios) ok ha).1 (eOk b (ios := ios) ok hb).1 (eOk c (ios := ios) ok hc).1 hp, pt_chainD (eOk a (ios := ios) ok ha).1 (eOk b (ios := ios) ok hb).1 (eOk c (ios := ios) ok hc).1 hp⟩
    · cases h
  | .and es, X, ios, ok, x, h => by
    simp only [mE] at h
    split at h
    · obtain ⟨h1, h2, h3, h4⟩ := blsOk es (ios := ios) ok h
      have e : ∀ env, ev Γ ios (.and es) env = evAnd Γ ios es env := fun env => by simp only [ev]
      rw [show ev Γ ios (.and es) = evAnd Γ ios es from funext e]
      exact ⟨h1, h3.pt⟩
    · cases h
  | .or es, X, ios, ok, x, h => by
    simp only [mE] at h
    split at h
    · obtain ⟨h1, h2, h3, h4⟩ := blsOk es (ios := ios) ok h
      have e : ∀ env, ev Γ ios (.or es) env = evOr Γ ios es env := fun env => by simp only [ev]
      rw [show ev Γ ios (.or es) = evOr Γ ios es from funext e]
      exact ⟨h2, h4.pt⟩
    · cases h
  | .ite c a b, X, ios, ok, x, h => by
    simp only [mE] at h
    split at h
    · simp only [Bool.and_eq_true] at h
      exact ⟨pe_iteD (eOk c (ios := ios) ok h.1.1).2 (eOk a (ios := ios) ok h.1.2).1 (eOk b (ios := ios) ok h.2).1, pt_iteD (eOk c (ios := ios) ok h.1.1).2 (eOk a (ios := ios) ok h.1.2).2 (eOk b (ios := ios) ok h.2).2⟩
    · cases h
  | .sub a i, X, ios, ok, x, h => by
    simp only [mE] at h
    split at h
    · simp only [Bool.and_eq_true] at h
      exact both (pe_subD (eOk a (ios := ios) ok h.1.1).1 (eOk i (ios := ios) ok h.1.2).1 h.2)
    · cases h
  | .slc a fl lo fh hi, X, ios, ok, x, h => by
    simp only [mE] at h
    split at h
    · rename_i y l hh p2 p3
      simp only [Bool.and_eq_true] at h
      obtain ⟨⟨h1, h2⟩, h3⟩ := h
      have q2 : if fl = true then ∃ l0, l = some l0 ∧ PE X l0 (tE X.K (ev Γ ios lo)) else l = none := by
        cases l with
        | none => simp only [Bool.not_eq_true'] at h2; rw [h2]; simp
        | some l0 => simp only [Bool.and_eq_true] at h2; rw [if_pos h2.1]; exact ⟨l0, rfl, (eOk lo (ios := ios) ok h2.2).1⟩
      have q3 : if fh = true then ∃ l0, hh = some l0 ∧ PE X l0 (tE X.K (ev Γ ios hi)) else hh = none := by
        cases hh with
        | none => simp only [Bool.not_eq_true'] at h3; rw [h3]; simp
        | some l0 => simp only [Bool.and_eq_true] at h3; rw [if_pos h3.1]; exact ⟨l0, rfl, (eOk hi (ios := ios) ok h3.2).1⟩
      exact both (pe_slcD (pos := p3) (p2 := p2) (eOk a (ios := ios) ok h1).1 q2 q3)
    · cases h
  | .rvs a, X, ios, ok, x, h => by
    simp only [mE] at h
    split at h
    · simp only [Bool.and_eq_true, decide_eq_true_eq] at h
      obtain ⟨rfl, h⟩ := h
      exact both (pe_rvsD (eOk a (ios := ios) ok h).1)
    · cases h
  | .call f as, X, ios, ok, x, h => by
    simp only [mE] at h
    split at h
    · rename_i g xs pos
      simp only [Bool.and_eq_true] at h
      obtain ⟨n, p, ps, addr, fd, rfl, hf, hgl, hdb, hm, F, hk, hb, _, hlen⟩ := callB_ok ok h.1
      obtain ⟨ha, hpl⟩ := asOk as (ios := ios) ok h.2
      have : PE X (.Call (.Name n p) xs [] pos) (tE X.K (ev Γ ios (.call f as))) := by
        cases xs with
        | nil =>
          have hz : as = .nil := by cases as <;> simp [mAs] at h ⊢
          subst hz
          exact (pe_callG0 (E := E0) F ok.gd ok.room hgl hm hk hb passC hdb).imp fun σ H Q w => by
            have := tE_callB (E := E0) w hlen
            obtain ⟨F0, env, O, ds, env', st, e, post⟩ := this
            simp only [evA, Option.some.injEq, Prod.mk.injEq] at e
            obtain ⟨rfl, rfl⟩ := e
            exact post [] H O Ext.refl st rfl trivial
        | cons y ys =>
          simp only [List.all_cons, Bool.and_eq_true] at hpl
          exact (pe_callG F ok.gd ok.room hgl hm hk hb passC ha hdb (star_plain hpl.1 ys X.env) (backTo_plain pos X.env hpl.2)).imp fun σ H Q w => tE_callB (E := E0) w hlen
      exact ⟨this, pt_gen this⟩
    · cases h
  | .callK f as js ix, X, ios, ok, x, h => by
    simp only [mE] at h
    split at h
    · rename_i g kws pos
      simp only [Bool.and_eq_true] at h
      obtain ⟨⟨h1, h2⟩, h3⟩ := h
      obtain ⟨n, p, ps, addr, fd, rfl, hf, hgl, hdb, hm, F, hk, hb, hkb, hlen⟩ := callB_ok ok h1
      simp only [kwB, hf, Bool.and_eq_true, decide_eq_true_eq, Bool.not_eq_true'] at h3
      obtain ⟨⟨hbw, hkl⟩, ⟨⟨hal, hj⟩, hi⟩, hx⟩ := h3
      have KB := hkb _ _ hkl
      obtain ⟨s1, s2, s3⟩ := mKs_some (pos := pos) (env := X.env) h2
      have hpk := ksOk as (ios := ios) ok h2
      have : PE X (.Call (.Name n p) [] kws pos) (tE X.K (ev Γ ios (.callK f as js ix))) :=
        (pe_callGK F ok.gd ok.room hgl hm hk KB passC hpk s1 s3 hdb (by rw [s2]; rfl)).imp fun σ H Q w => tE_callK (E := E0) hbw hj hi hx hal w hlen
      exact ⟨this, pt_gen this⟩
    · cases h
  | .blt b es, X, ios, ok, x, h => by
    simp only [mE] at h
    split at h
    · simp only [Bool.and_eq_true, decide_eq_true_eq] at h
      obtain ⟨⟨⟨hn, hb⟩, hg⟩, he⟩ := h
      obtain ⟨ha, hp⟩ := esOk es (ios := ios) ok he
      exact both (pe_bltD ok (b := b) hn hb hg ha hp)
    · rename_i n p m ap pos
      simp only [Bool.and_eq_true, decide_eq_true_eq] at h
      obtain ⟨⟨⟨rfl, rfl⟩, he⟩, hl⟩ := h
      cases es with
      | nil => simp [mEs] at he
      | cons ea r =>
        cases r with
        | cons _ _ => simp [mEs] at he
        | nil =>
          simp only [mEs, Bool.and_eq_true] at he
          have := pe_bitsD (pos := pos) (apos := ap) (eOk ea (ios := ios) ok he.1.1).1 (by rw [hl]; exact beq_self_eq_true _)
          exact ⟨this, pt_gen this⟩
    · cases h
  | .isI a ts, X, ios, ok, x, h => by
    simp only [mE] at h
    split at h
    · rename_i f y z pos
      simp only [Bool.and_eq_true] at h
      obtain ⟨⟨⟨hg, ha⟩, hp⟩, ht⟩ := h
      obtain ⟨p, rfl, hg⟩ := gnB_ok hg
      have this : PE X (.Call (.Name "isinstance" p) [y, z] [] pos) (tE X.K (ev Γ ios (.isI a ts))) := by
        have one : ∀ {t : Ty}, tyNameB X.env.scope t z = true → PE X (.Call (.Name "isinstance" p) [y, z] [] pos) (tE X.K (ev Γ ios (.isI a [t]))) := by
          intro t ht
          obtain ⟨m, p2, rfl, h1, h2, h3⟩ := tyNameB_ok ht
          exact pe_isI1 (ok.blt "isinstance" (by decide)) hg (eOk a (ios := ios) ok ha).1 hp h1 (ok.blt m h3) h2
        unfold tysB at ht
        split at ht
        · rename_i ts2 xs kk pp
          simp only [Bool.and_eq_true, decide_eq_true_eq] at ht
          obtain ⟨⟨h1, h2⟩, h3⟩ := ht
          obtain ⟨hl, hx⟩ := tyNamesB_len h1
          cases ts with
          | nil => exact absurd rfl h2
          | cons t0 ts => exact pe_isIT (ok.blt "isinstance" (by decide)) hg (eOk a (ios := ios) ok ha).1 hp ok.blt ⟨hl, fun j t x e1 e2 => tyNameB_ok (hx j t x e1 e2)⟩ h3
        · exact one ht
        · cases ht
      exact ⟨this, pt_gen this⟩
    · cases h
  | .comp own elt tg it c cond, X, ios, ok, x, h => by
    simp only [mE] at h
    split at h
    · rename_i e t i ifs scope pos
      simp only [Bool.and_eq_true, ← ok.N] at h
      obtain ⟨⟨⟨⟨⟨⟨⟨hi, hpi⟩, hblk⟩, ht1⟩, ht2⟩, hown⟩, he⟩, hc⟩ := h
      have hpi' := iOk it (ios := ios) ok hi
      simp only [List.all_eq_true, decide_eq_true_eq] at hown
      have hlt := tgB_lt ht1
      have hE : ∀ (s : Shared) (H : Hp) (C : Addr) (cl : List (Str × Addr)) (fp : List Addr), PE (X.blk s H scope (compEnvC scope cl C X.env) fp) e (tE X.K (ev Γ ios elt)) := fun s H C cl fp => (eOk elt (ios := ios) (ok.blk s H scope C cl fp) he).1
      have hT : ∀ (s : Shared) (H : Hp) (C : Addr) (cl : List (Str × Addr)) (fp : List Addr), PTs (X.blk s H scope (compEnvC scope cl C X.env) fp) ifs (condT X.K c (ev Γ ios cond)) := by
        intro s H C cl fp
        cases c with
        | none =>
          cases ifs with
          | nil => exact pts_nil
          | cons _ _ => simp at hc
        | some u =>
          cases ifs with
          | nil => simp at hc
          | cons d r =>
            cases r with
            | cons _ _ => simp at hc
            | nil => exact pts_one (eOk cond (ios := ios) (ok.blk s H scope C cl fp) hc).2
      have := (pe_lc (pos := pos) ok.calm ok.nd hpi' (blkOk_by hblk) (fun s H C cl fp => ok.pgB (ios := ios) ht1 ht2 s H C cl fp) hT hE (fun v => fold_plain hpi X.env v)).impN (t' := tE X.K (ev Γ ios (.comp own elt tg it c cond))) fun σ H Q hl w => by
        rw [ownP_snd]
        refine tE_comp hown (fun j hj => by rw [hl]; exact hlt j hj) ?_
        have e : ∀ env, ev Γ ios (.comp own elt tg it c cond) env = (evI Γ ios it env).bind fun p => (turns (stepC ios own tg c (ev Γ ios cond) (ev Γ ios elt)) p.1 (wipeD p.2.1 own) []).map fun q => (.lst true q.1, putD p.2.2 (backD q.2 p.2.1 own)) := fun env => by
          simp only [ev]; rfl
        rw [show ev Γ ios (.comp own elt tg it c cond) = _ from funext e] at w
        exact w
      exact ⟨this, pt_gen this⟩
    · cases h
  | .comp2 own own2 elt tg it tg2 it2, X, ios, ok, x, h => by
    simp only [mE] at h
    split at h
    · rename_i e t i t2 i2 scope pos
      simp only [Bool.and_eq_true, ← ok.N] at h
      obtain ⟨⟨⟨⟨⟨⟨⟨⟨⟨⟨⟨⟨hi, hpi⟩, hblk⟩, ht1⟩, ht2⟩, hown⟩, he⟩, hi2⟩, hpi2⟩, hu1⟩, hu2⟩, hown2⟩, hsub⟩ := h
      have hpi' := iOk it (ios := ios) ok hi
      simp only [List.all_eq_true, decide_eq_true_eq] at hown hown2 hsub
      have hlt := tgB_lt ht1
      have hlt2 := tgB_lt hu1
      have := (pe_lc2 (pos := pos) (vs1 := own2) (te := tE X.K (ev Γ ios elt)) (wi1 := tI X.K (evI Γ ios it2)) ok.calm ok.nd hpi' (blkOk_by hblk) (by rw [ownP_snd]; exact hsub) (fun s H C cl fp => ok.pgB (ios := ios) ht1 ht2 s H C cl fp) (fun s H C cl fp => pts_nil)
          (fun s H C cl fp => iOk it2 (ios := ios) (ok.blk s H scope C cl fp) hi2) (fun s H C cl fp => ok.pgB (ios := ios) hu1 hu2 s H C cl fp) (fun s H C cl fp => pts_nil) (fun s H C cl fp => (eOk elt (ios := ios) (ok.blk s H scope C cl fp) he).1)
          (fun v => fold_plain hpi X.env v) (fun env v => fold_plain hpi2 env v)).impN (t' := tE X.K (ev Γ ios (.comp2 own own2 elt tg it tg2 it2))) fun σ H Q hl w => by
        rw [ownP_snd]
        refine tE_comp2 hown (fun j hj => by rw [hl]; exact hlt j hj) hown2 (fun j hj => by rw [hl]; exact hlt2 j hj) ?_
        have e : ∀ env, ev Γ ios (.comp2 own own2 elt tg it tg2 it2) env = (evI Γ ios it env).bind fun p => (turns2 (step2 ios own own2 tg tg2 (evI Γ ios it2) (ev Γ ios elt)) p.1 (wipeD p.2.1 own) []).bind fun q => if q.1.length ≤ lim then some (.lst true q.1, putD p.2.2 (backD q.2 p.2.1 own)) else none := fun env => by
          simp only [ev]; rfl
        rw [show ev Γ ios (.comp2 own own2 elt tg it tg2 it2) = _ from funext e] at w
        exact w
      exact ⟨this, pt_gen this⟩
    · cases h
  | .eqp i xs j ys neg, X, ios, ok, x, h => by
    simp only [mE, ← ok.N] at h
    split at h
    · simp only [Bool.and_eq_true, decide_eq_true_eq] at h
      obtain ⟨⟨rfl, h1⟩, h2⟩ := h
      cases neg with
      | true => exact ⟨pe_eqpD' ok.units h1 h2, pt_eqpD' ok.units h1 h2⟩
      | false => exact ⟨pe_eqpD ok.units h1 h2, pt_eqpD ok.units h1 h2⟩
    · cases h
  | .srtp i xs, X, ios, ok, x, h => by
    simp only [mE, ← ok.N] at h
    split at h
    · simp only [Bool.and_eq_true] at h
      obtain ⟨p, rfl, hg⟩ := gnB_ok h.1
      exact both (pe_srtpD (Γ := Γ) (ios := ios) (p := p) (ok.blt "sorted" (by decide)) hg h.2)
    · cases h
  | .inp i xs j ys neg, X, ios, ok, x, h => by
    simp only [mE, ← ok.N] at h
    split at h
    · simp only [Bool.and_eq_true, decide_eq_true_eq] at h
      obtain ⟨⟨rfl, h1⟩, h2⟩ := h
      cases neg with
      | true => exact ⟨pe_inpD' h1 h2, pt_inpD' h1 h2⟩
      | false => exact ⟨pe_inpD h1 h2, pt_inpD h1 h2⟩
    · cases h
  | .nonp i xs neg, X, ios, ok, x, h => by
    simp only [mE, ← ok.N] at h
    split at h
    · simp only [Bool.and_eq_true, decide_eq_true_eq] at h
      obtain ⟨rfl, h1⟩ := h
      cases neg with
      | true => exact ⟨pe_nonpD' h1, pt_nonpD' h1⟩
      | false => exact ⟨pe_nonpD h1, pt_nonpD h1⟩
    · cases h
  | .catp i xs j ys, X, ios, ok, x, h => by
    simp only [mE, ← ok.N] at h
    split at h
    · simp only [Bool.and_eq_true, decide_eq_true_eq] at h
      obtain ⟨⟨rfl, h1⟩, h2⟩ := h
      exact both (pe_catpD h1 h2)
    · cases h
  | .lrg1 a, X, ios, ok, x, h => by
    simp only [mE] at h
    split at h
    · simp only [Bool.and_eq_true] at h
      obtain ⟨⟨⟨hg, hf⟩, ha⟩, hp⟩ := h
      obtain ⟨p1, rfl, hg⟩ := gnB_ok hg
      obtain ⟨p2, rfl, hf⟩ := gnB_ok hf
      exact both (pe_lrg1D ok.calm (ok.blt "range" (by decide)) (ok.blt "list" (by decide)) (glB_ok hg).1 (glB_ok hf).1 (eOk a (ios := ios) ok ha).1 hp)
    · cases h
  | .lrg2 a b, X, ios, ok, x, h => by
    simp only [mE] at h
    split at h
    · simp only [Bool.and_eq_true] at h
      obtain ⟨⟨⟨⟨⟨hg, hf⟩, ha⟩, hp⟩, hb⟩, hpz⟩ := h
      obtain ⟨p1, rfl, hg⟩ := gnB_ok hg
      obtain ⟨p2, rfl, hf⟩ := gnB_ok hf
      exact both (pe_lrg2D ok.calm (ok.blt "range" (by decide)) (ok.blt "list" (by decide)) (glB_ok hg).1 (glB_ok hf).1 (eOk a (ios := ios) ok ha).1 hp (eOk b (ios := ios) ok hb).1 hpz)
    · cases h
  | .pop i es, X, ios, ok, x, h => by
    simp only [mE] at h
    split at h
    · rename_i n p m ap ys pos
      simp only [Bool.and_eq_true, decide_eq_true_eq, ← ok.N] at h
      obtain ⟨⟨⟨⟨rfl, hn⟩, hl⟩, hly⟩, he⟩ := h
      obtain ⟨ha, hp⟩ := esOk es (ios := ios) ok he
      have hl' : (ap.endLine == pos.line) = true := by rw [hl]; exact beq_self_eq_true _
      have : PE X (.Call (.Attribute (.Name n p) "pop" ap) ys [] pos) (tE X.K (ev Γ ios (.pop i es))) := by
        cases ys with
        | nil =>
          cases es with
          | nil => exact pe_popD0 hn hl'
          | cons _ _ => simp [mEs] at he
        | cons y ys =>
          cases ys with
          | cons _ _ => simp at hly
          | nil => exact pe_popD hn ha hp hl' rfl
      exact ⟨this, pt_gen this⟩
    · cases h
theorem esOk : ∀ (es : Es) {X : Cx} {ios : List Nat} (ok : OkM X k Γ M) {xs : List Expr}, mEs M es X.env.scope xs = true → PA X xs (tA X.K (evs Γ ios es)) ∧ xs.all plainX = true
  | .nil, X, ios, ok, [], h => ⟨pa_nil.imp fun σ H Q w => tA_nil (by simpa only [evs] using w), rfl⟩
  | .nil, X, ios, ok, _ :: _, h => by simp [mEs] at h
  | .cons e es, X, ios, ok, [], h => by simp [mEs] at h
  | .cons e es, X, ios, ok, x :: xs, h => by
    simp only [mEs, Bool.and_eq_true] at h
    obtain ⟨⟨h1, h2⟩, h3⟩ := h
    obtain ⟨q1, q2⟩ := esOk es (ios := ios) ok h3
    refine ⟨(pa_cons (eOk e (ios := ios) ok h1).1 q1 (star_plain h2 xs X.env)).imp fun σ H Q w => tA_cons ?_, by simp [h2]; simpa using q2⟩
    have e0 : ∀ env, evs Γ ios (.cons e es) env = (ev Γ ios e env).bind fun p => (evs Γ ios es p.2).map fun q => (p.1 :: q.1, q.2) := fun env => by simp only [evs]
    rw [show evs Γ ios (.cons e es) = _ from funext e0] at w
    exact w
theorem blsOk : ∀ (es : Es) {X : Cx} {ios : List Nat} (ok : OkM X k Γ M) {x : Expr} {xs : List Expr} {pos : Pos}, mEs M es X.env.scope (x :: xs) = true →
    PE X (.BoolOp .And (x :: xs) pos) (tE X.K (evAnd Γ ios es)) ∧ PE X (.BoolOp .Or (x :: xs) pos) (tE X.K (evOr Γ ios es)) ∧ PW X (.BoolOp .And (x :: xs) pos) (tT X.K (evAnd Γ ios es)) ∧ PW X (.BoolOp .Or (x :: xs) pos) (tT X.K (evOr Γ ios es))
  | .nil, X, ios, ok, x, xs, pos, h => by simp [mEs] at h
  | .cons e es, X, ios, ok, x, xs, pos, h => by
    simp only [mEs, Bool.and_eq_true] at h
    obtain ⟨⟨h1, h2⟩, h3⟩ := h
    obtain ⟨a1, a2⟩ := eOk e (ios := ios) ok h1
    cases xs with
    | nil =>
      have hz : es = .nil := by cases es with
        | nil => rfl
        | cons _ _ => simp [mEs] at h3
      subst hz
      exact ⟨pe_one_and a1, pe_one_or a1, pw_one_and a2, pw_one_or a2⟩
    | cons y ys =>
      obtain ⟨b1, b2, b3, b4⟩ := blsOk es (ios := ios) ok (pos := pos) h3
      exact ⟨pe_cons_and a1 b1, pe_cons_or a1 b2, pw_cons_and a2 b3, pw_cons_or a2 b4⟩
theorem asOk : ∀ (as : As) {X : Cx} {ios : List Nat} (ok : OkM X k Γ M) {xs : List Expr}, mAs M as X.env.scope xs = true → PA X xs (tAs X.K as (evA Γ ios as)) ∧ xs.all plainX = true
  | .nil, X, ios, ok, [], h => ⟨pa_nil.imp fun σ H Q w => tAs_nil w, rfl⟩
  | .nil, X, ios, ok, _ :: _, h => by simp [mAs] at h
  | .ex e r, X, ios, ok, [], h => by simp [mAs] at h
  | .io e r, X, ios, ok, [], h => by simp [mAs] at h
  | .bw e r, X, ios, ok, [], h => by simp [mAs] at h
  | .ex e r, X, ios, ok, x :: xs, h => by
    simp only [mAs, Bool.and_eq_true] at h
    obtain ⟨⟨h1, h2⟩, h3⟩ := h
    obtain ⟨q1, q2⟩ := asOk r (ios := ios) ok h3
    exact ⟨(pa_cons (eOk e (ios := ios) ok h1).1 q1 (star_plain h2 xs X.env)).imp fun σ H Q w => tAs_ex w, by simp [h2]; simpa using q2⟩
  | .io e r, X, ios, ok, x :: xs, h => by
    simp only [mAs, Bool.and_eq_true, ← ok.N] at h
    obtain ⟨⟨h1, h2⟩, h3⟩ := h
    obtain ⟨q1, q2⟩ := asOk r (ios := ios) ok h3
    exact ⟨(pa_cons (pe_nameB h1) q1 (star_plain h2 xs X.env)).imp fun σ H Q w => tAs_io w, by simp [h2]; simpa using q2⟩
  | .bw e r, X, ios, ok, x :: xs, h => by
    simp only [mAs, Bool.and_eq_true, ← ok.N] at h
    obtain ⟨⟨h1, h2⟩, h3⟩ := h
    obtain ⟨q1, q2⟩ := asOk r (ios := ios) ok h3
    exact ⟨(pa_cons (pe_nameB h1) q1 (star_plain h2 xs X.env)).imp fun σ H Q w => tAs_bw w, by simp [h2]; simpa using q2⟩
theorem ksOk : ∀ (as : As) {X : Cx} {ios : List Nat} (ok : OkM X k Γ M) {xs : List Keyword}, mKs M as X.env.scope xs = true → PK X xs (tAs X.K as (evA Γ ios as))
  | .nil, X, ios, ok, [], h => pk_nil.imp fun σ H Q w => tAs_nil w
  | .nil, X, ios, ok, _ :: _, h => by simp [mKs] at h
  | .ex e r, X, ios, ok, [], h => by simp [mKs] at h
  | .io e r, X, ios, ok, [], h => by simp [mKs] at h
  | .bw e r, X, ios, ok, [], h => by simp [mKs] at h
  | .ex e r, X, ios, ok, ⟨none, x, p⟩ :: xs, h => by simp [mKs] at h
  | .io e r, X, ios, ok, ⟨none, x, p⟩ :: xs, h => by simp [mKs] at h
  | .bw e r, X, ios, ok, ⟨none, x, p⟩ :: xs, h => by simp [mKs] at h
  | .ex e r, X, ios, ok, ⟨some n, x, p⟩ :: xs, h => by
    simp only [mKs, Bool.and_eq_true] at h
    exact (pk_cons (eOk e (ios := ios) ok h.1).1 (ksOk r (ios := ios) ok h.2)).imp fun σ H Q w => tAs_ex w
  | .io e r, X, ios, ok, ⟨some n, x, p⟩ :: xs, h => by
    simp only [mKs, Bool.and_eq_true] at h
    exact (pk_cons (pe_nameB (by rw [ok.N]; exact h.1)) (ksOk r (ios := ios) ok h.2)).imp fun σ H Q w => tAs_io w
  | .bw e r, X, ios, ok, ⟨some n, x, p⟩ :: xs, h => by
    simp only [mKs, Bool.and_eq_true] at h
    exact (pk_cons (pe_nameB (by rw [ok.N]; exact h.1)) (ksOk r (ios := ios) ok h.2)).imp fun σ H Q w => tAs_bw w
theorem iOk : ∀ (it : It) {X : Cx} {ios : List Nat} (ok : OkM X k Γ M) {t x : Expr}, mI M it X.env.scope t x = true → PI X t x (tI X.K (evI Γ ios it))
  | .e a, X, ios, ok, t, x, h => by
    simp only [mI] at h
    exact pi_e (eOk a (ios := ios) ok h).1
  | .bor i, X, ios, ok, t, x, h => by
    simp only [mI, ← ok.N] at h
    exact pi_bor h
  | .rng1 a, X, ios, ok, t, x, h => by
    simp only [mI] at h
    split at h
    · simp only [Bool.and_eq_true] at h
      obtain ⟨p, rfl, hg⟩ := gnB_ok h.1.1
      exact pi_rng1 (ok.blt "range" (by decide)) hg (eOk a (ios := ios) ok h.1.2).1 h.2
    · cases h
  | .rng2 a b, X, ios, ok, t, x, h => by
    simp only [mI] at h
    split at h
    · simp only [Bool.and_eq_true] at h
      obtain ⟨⟨⟨⟨h0, h1⟩, h2⟩, h3⟩, h4⟩ := h
      obtain ⟨p, rfl, hg⟩ := gnB_ok h0
      exact pi_rng2 (ok.blt "range" (by decide)) hg (eOk a (ios := ios) ok h1).1 h2 (eOk b (ios := ios) ok h3).1 h4
    · cases h
  | .enum a, X, ios, ok, t, x, h => by
    simp only [mI] at h
    split at h
    · simp only [Bool.and_eq_true] at h
      obtain ⟨⟨⟨h0, h1⟩, h2⟩, h3⟩ := h
      obtain ⟨p, rfl, hg⟩ := gnB_ok h0
      obtain ⟨_, _, _, rfl⟩ := isTuple_ok h3
      exact pi_enum1 (ok.blt "enumerate" (by decide)) hg (eOk a (ios := ios) ok h1).1 h2
    · cases h
  | .enumB i, X, ios, ok, t, x, h => by
    simp only [mI, ← ok.N] at h
    split at h
    · simp only [Bool.and_eq_true] at h
      obtain ⟨⟨⟨h0, h1⟩, h2⟩, h3⟩ := h
      obtain ⟨p, rfl, hg⟩ := gnB_ok h0
      obtain ⟨_, _, _, rfl⟩ := isTuple_ok h3
      exact pi_enumB (ok.blt "enumerate" (by decide)) hg h1 h2
    · cases h
  | .rev a, X, ios, ok, t, x, h => by
    simp only [mI] at h
    split at h
    · simp only [Bool.and_eq_true] at h
      obtain ⟨⟨h0, h1⟩, h2⟩ := h
      obtain ⟨p, rfl, hg⟩ := gnB_ok h0
      exact pi_revD (ok.blt "reversed" (by decide)) hg (eOk a (ios := ios) ok h1).1 h2
    · cases h
end
end
end OE

/-! Oe17: statements. -/
namespace OE
open PySem PySem.Spec PyProof.Rows L2

def flP (K : PySem.W.Frag) (F : Addr → Prop) (Dn : Ends) (f : Fl) (σ' : L2.St) (H' : Hp) (O' : List Addr) : Prop := match f with
  | .nx e => St K F H' e σ' O' → Dn.nx σ' H'
  | .ct e => St K F H' e σ' O' → Dn.ct σ' H'
  | .bk e => St K F H' e σ' O' → Dn.bk σ' H'
  | .rt d e => ∀ v, St K F H' (d :: e) (some v :: σ') O' → Dn.rt v H'
def tS (K : PySem.W.Frag) (ios : List Nat) (m : List D → Option Fl) : TS := fun Dn σ H => ∃ F env O f, St K F H env σ O ∧ m env = some f ∧
  ∀ σ' H' O', Ext O H O' H' → (∀ j ∈ ios, σ'[j]? = σ[j]?) → σ'.length = σ.length → flP K F Dn f σ' H' O'
theorem _root_.L2.PS.impN {X : Cx} {s : Stmt} {t t' : TS} (h : PS X s t) (i : ∀ D σ H, σ.length = X.N.length → t' D σ H → t D σ H) : PS X s t' := ⟨fun pins s σ H D I w => h.run pins s σ H D I (i D σ H I.len w)⟩
theorem _root_.L2.PSs.impN {X : Cx} {s : List Stmt} {t t' : TS} (h : PSs X s t) (i : ∀ D σ H, σ.length = X.N.length → t' D σ H → t D σ H) : PSs X s t' := ⟨fun pins s σ H D I w => h.run pins s σ H D I (i D σ H I.len w)⟩

section
variable {K : PySem.W.Frag} {Γ : Fns} {ios : List Nat} {σ : L2.St} {H : Hp} {Dn : Ends}
theorem tS_nil (h : tS K ios (exs Γ ios .nil) Dn σ H) : tNext Dn σ H := by
  obtain ⟨F, env, O, f, st, e, post⟩ := h
  simp only [exs, Option.some.injEq] at e
  subst e
  exact post σ H O Ext.refl (fun _ _ => rfl) rfl st
theorem tS_cons {s : S} {r : Ss} (h : tS K ios (exs Γ ios (.cons s r)) Dn σ H) : tSeq (tS K ios (ex Γ ios s)) (tS K ios (exs Γ ios r)) Dn σ H := by
  obtain ⟨F, env, O, f, st, e, post⟩ := h
  simp only [exs] at e
  split at e
  · cases e
  · rename_i env1 h1
    refine ⟨F, env, O, .nx env1, st, h1, fun σ' H' O' ex1 io hl st1 => ⟨F, env1, O', f, st1, e, fun σ2 H2 O2 ex2 io2 hl2 => ?_⟩⟩
    exact post σ2 H2 O2 (ex1.trans ex2) (fun j hj => (io2 j hj).trans (io j hj)) (hl2.trans hl)
  · rename_i f1 hn h1
    simp only [Option.some.injEq] at e
    subst e
    refine ⟨F, env, O, f1, st, h1, fun σ' H' O' ex1 io hl => ?_⟩
    have := post σ' H' O' ex1 io hl
    cases f1 with
    | nx e => exact (hn e rfl).elim
    | ct e => exact this
    | bk e => exact this
    | rt d e => exact this
theorem tS_asg {i : Nat} {e : E} (hi : i < σ.length) (h : tS K ios (ex Γ ios (.asg i e)) Dn σ H) : tAsg (tE K (ev Γ ios e)) (gName i) Dn σ H := by
  obtain ⟨F, env, O, f, st, e, post⟩ := h
  simp only [ex, Option.ite_none_left_eq_some] at e
  obtain ⟨hio, e⟩ := e
  rw [Option.map_eq_some_iff] at e; obtain ⟨⟨d, env1⟩, e1, e⟩ := e
  subst e
  refine ⟨F, env, O, d, env1, st, e1, fun v H1 O1 ex1 st1 => ?_⟩
  obtain ⟨O2, sub, st2⟩ := St.store (i := i) st1 (by have := st1.rep.len; simp at this; omega)
  exact post _ H1 O2 (ex1.less sub) (fun j hj => List.getElem?_set_ne (fun (z : i = j) => hio (z ▸ hj))) List.length_set st2
theorem tS_unp {is : List Nat} {e : E} (hlt : ∀ j ∈ is, j < σ.length) (h : tS K ios (ex Γ ios (.unp is e)) Dn σ H) : tAsg (tE K (ev Γ ios e)) (tG K ios (.tp is)) Dn σ H := by
  obtain ⟨F, env, O, f, st, e, post⟩ := h
  simp only [ex] at e
  rw [Option.bind_eq_some_iff] at e; obtain ⟨⟨d, env1⟩, e1, e⟩ := e
  rw [Option.map_eq_some_iff] at e; obtain ⟨env2, e2, e⟩ := e
  subst e
  refine ⟨F, env, O, d, env1, st, e1, fun v H1 O1 ex1 st1 => ?_⟩
  exact ⟨F, env1, O1, d, env2, st1, e2, hlt, fun σ' O' sub st' sm io => post σ' H1 O' (ex1.less sub) io sm.1 st'⟩
theorem tS_par {i j : Nat} {a b : E} (hi : i < σ.length) (hj : j < σ.length) (h : tS K ios (ex Γ ios (.par i j a b)) Dn σ H) : tPar i j (tCons (tE K (ev Γ ios a)) (tCons (tE K (ev Γ ios b)) tNil)) Dn σ H := by
  obtain ⟨F, env, O, f, st, e, post⟩ := h
  simp only [ex, Option.ite_none_left_eq_some, not_or] at e
  obtain ⟨⟨hi0, hj0, hij⟩, e⟩ := e
  rw [Option.bind_eq_some_iff] at e; obtain ⟨⟨da, env1⟩, e1, e⟩ := e
  rw [Option.map_eq_some_iff] at e; obtain ⟨⟨db, env2⟩, e2, e⟩ := e
  subst e
  refine ⟨F, env, O, da, env1, st, e1, fun v H1 O1 ex1 st1 => ?_⟩
  obtain ⟨OP, OR, rfl, st1', back1⟩ := St.tail (P := [da]) (pv := [some v]) st1 rfl
  refine ⟨_, env1, OR, db, env2, st1', e2, fun w H2 O2 ex2 st2 => ?_⟩
  obtain ⟨ex2', st2'⟩ := back1 _ _ _ _ ex2 st2
  refine ⟨v, w, rfl, ?_⟩
  have s3 : St K F H2 ([da] ++ ([db] ++ env2)) ([some v] ++ ([some w] ++ σ)) _ := st2'
  obtain ⟨O3, pm3, s4⟩ := St.swap2 s3 rfl rfl
  have s4' : St K F H2 (db :: da :: env2) (some w :: some v :: σ) O3 := s4
  obtain ⟨OQ, OS, rfl, s5, back5⟩ := St.tail (P := [db]) (pv := [some w]) s4' rfl
  have hle : env2.length = σ.length := by have := s5.rep.len; simp at this; omega
  obtain ⟨O6, sub6, s6⟩ := St.store (i := i) s5 (by omega)
  obtain ⟨ex7, s7⟩ := back5 _ _ _ H2 (Ext.refl.less sub6) s6
  have s7' : St K F H2 (db :: env2.set i da) (some w :: σ.set i (some v)) (OQ ++ O6) := s7
  obtain ⟨O8, sub8, s8⟩ := St.store (i := j) s7' (by rw [List.length_set]; omega)
  refine post _ H2 O8 (ex1.trans ((ex2'.perm pm3).trans (ex7.less sub8))) (fun l hl => ?_) (by simp) s8
  rw [List.getElem?_set_ne (fun (z : j = l) => hj0 (z ▸ hl)), List.getElem?_set_ne (fun (z : i = l) => hi0 (z ▸ hl))]
theorem RepL.setL {A : Addr → Prop} {d : D} {v : V} {On : List Addr} (rn : Rep K A H d v On) : ∀ {ds : List D} {vs : List V} {O : List Addr} {j : Nat}, RepL K A H ds vs O → j < ds.length → ∃ O2 Ox, (O2 ++ Ox).Perm (On ++ O) ∧ RepL K A H (ds.set j d) (vs.set j v) O2
  | [], _, _, _, _, hj => by simp at hj
  | d0 :: ds, vs, O, 0, r, hj => by
    simp only [RepL, Rep.RepL] at r
    obtain ⟨v0, vs', O1, O2, rfl, rfl, r1, r2⟩ := r
    refine ⟨On ++ O2, O1, ?_, ?_⟩
    · rw [List.append_assoc]; exact List.perm_append_comm.append_left _
    · simp only [RepL, List.set_cons_zero, Rep.RepL]; exact ⟨v, vs', On, O2, rfl, rfl, rn, r2⟩
  | d0 :: ds, vs, O, j + 1, r, hj => by
    simp only [RepL, Rep.RepL] at r
    obtain ⟨v0, vs', O1, O2, rfl, rfl, r1, r2⟩ := r
    obtain ⟨O3, Ox, pm, r3⟩ := RepL.setL rn r2 (by simpa using hj)
    refine ⟨O1 ++ O3, Ox, ?_, ?_⟩
    · rw [List.append_assoc]
      refine (pm.append_left O1).trans ?_
      rw [← List.append_assoc, ← List.append_assoc]
      exact List.perm_append_comm.append_right _
    · simp only [RepL, List.set_cons_succ, Rep.RepL]; exact ⟨v0, vs'.set j v, O1, O3, rfl, rfl, r1, r3⟩
theorem tS_seti {i : Nat} {ke e : E} (h : tS K ios (ex Γ ios (.seti i [] ke e)) Dn σ H) : tAsg (tE K (ev Γ ios e)) (gSub (tVar i) (tE K (ev Γ ios ke)) rSetL) Dn σ H := by
  obtain ⟨F, env, O, f, st, e, post⟩ := h
  simp only [ex] at e
  rw [Option.bind_eq_some_iff] at e; obtain ⟨⟨d, env1⟩, e1, e⟩ := e
  rw [Option.bind_eq_some_iff] at e; obtain ⟨d1, e7, e⟩ := e
  simp only [Option.ite_none_left_eq_some] at e
  obtain ⟨_, e⟩ := e
  rw [Option.bind_eq_some_iff] at e; obtain ⟨⟨dk, env2⟩, e2, e⟩ := e
  cases dk <;> simp only [reduceCtorEq] at e
  rename_i kk
  rw [Option.bind_eq_some_iff] at e; obtain ⟨d0, e3, e⟩ := e
  rw [Option.map_eq_some_iff] at e; obtain ⟨d', e4, e⟩ := e
  subst e
  cases d0 <;> try (simp [setP] at e4; done)
  rename_i o ds
  cases o <;> try (simp [setP] at e4; done)
  simp only [setP] at e4
  rw [Option.map_eq_some_iff] at e4; obtain ⟨ds', e4, e5⟩ := e4
  rw [Option.map_eq_some_iff] at e4; obtain ⟨j, e4, e6⟩ := e4
  subst e5 e6
  refine ⟨F, env, O, d, env1, st, e1, fun v H1 O1 ex1 st1 => ?_⟩
  obtain ⟨OP, OR, rfl, st1', back1⟩ := St.tail (P := [d]) (pv := [some v]) st1 rfl
  obtain ⟨w, Oi, hw, _, _⟩ := st1'.rep.slot e7
  refine ⟨w, hw, _, env1, OR, .int kk, env2, st1', e2, fun u H2 O2 ex2 st2 => ?_⟩
  obtain ⟨rfl, st2i⟩ := st2.intTop
  obtain ⟨ex2', st2'⟩ := back1 _ _ _ _ ex2 st2i
  obtain ⟨OQ, OS, e9, st3, _⟩ := St.tail (P := [d]) (pv := [some v]) (R := env2) (rv := σ) st2' rfl
  obtain ⟨q, vs, hq, hH, hlv, hll⟩ := st3.at_ref e3
  rw [hw] at hq
  cases hq
  have hj : j < ds.length := (ixN_seq e4).2.1
  refine ⟨q, vs, kk, j, rfl, rfl, hH, by rw [hlv]; exact e4, ?_⟩
  obtain ⟨O4, ex4, st4⟩ := St.setSlot (ds' := ds.set j d) (vs' := vs.set j v) (dw := .hole) (w := .non) (i := i) st2' e3 hw hH (fun A On O1 nd rn r => by
    obtain ⟨O5, Ox, pm, r5⟩ := RepL.setL rn r hj
    have nd2 := pm.nodup_iff.mpr nd
    refine ⟨O5, [], fun a ha => pm.mem_iff.mp (List.mem_append_left _ (by simpa using ha)), ?_, r5, by simp [Rep]⟩
    simpa using (List.nodup_append.mp nd2).1) (by rw [List.length_set]; exact hll)
  exact post σ _ O4 (ex1.trans (ex2'.trans ex4)) (fun _ _ => rfl) rfl st4.unpush
theorem tS_ex {e : E} (h : tS K ios (ex Γ ios (.ex e)) Dn σ H) : tDrop (tE K (ev Γ ios e)) Dn σ H := by
  obtain ⟨F, env, O, f, st, e, post⟩ := h
  simp only [ex] at e
  rw [Option.map_eq_some_iff] at e; obtain ⟨⟨d, env1⟩, e1, e⟩ := e
  subst e
  refine ⟨F, env, O, d, env1, st, e1, fun v H1 O1 ex1 st1 => ?_⟩
  obtain ⟨O2, sub, st2⟩ := st1.dropTop
  exact post σ H1 O2 (ex1.less sub) (fun _ _ => rfl) rfl st2
theorem tS_ret {e : E} (h : tS K ios (ex Γ ios (.ret e)) Dn σ H) : tRet (tE K (ev Γ ios e)) Dn σ H := by
  obtain ⟨F, env, O, f, st, e, post⟩ := h
  simp only [ex] at e
  rw [Option.map_eq_some_iff] at e; obtain ⟨⟨d, env1⟩, e1, e⟩ := e
  subst e
  exact ⟨F, env, O, d, env1, st, e1, fun v H1 O1 ex1 st1 => post σ H1 O1 ex1 (fun _ _ => rfl) rfl v st1⟩
theorem tS_retN (h : tS K ios (ex Γ ios .retN) Dn σ H) : tRetN Dn σ H := by
  obtain ⟨F, env, O, f, st, e, post⟩ := h
  simp only [ex, Option.some.injEq] at e
  subst e
  exact post σ H O Ext.refl (fun _ _ => rfl) rfl .non (st.push fun A => by simp [Rep])
theorem tS_pass (h : tS K ios (ex Γ ios .pass) Dn σ H) : tNext Dn σ H := by
  obtain ⟨F, env, O, f, st, e, post⟩ := h
  simp only [ex, Option.some.injEq] at e
  subst e
  exact post σ H O Ext.refl (fun _ _ => rfl) rfl st
theorem tS_brk (h : tS K ios (ex Γ ios .brk) Dn σ H) : tBreak Dn σ H := by
  obtain ⟨F, env, O, f, st, e, post⟩ := h
  simp only [ex, Option.some.injEq] at e
  subst e
  exact post σ H O Ext.refl (fun _ _ => rfl) rfl st
theorem tS_cnt (h : tS K ios (ex Γ ios .cnt) Dn σ H) : tCont Dn σ H := by
  obtain ⟨F, env, O, f, st, e, post⟩ := h
  simp only [ex, Option.some.injEq] at e
  subst e
  exact post σ H O Ext.refl (fun _ _ => rfl) rfl st
theorem tS_no (h : tS K ios (ex Γ ios .no) Dn σ H) : tNever Dn σ H := by
  obtain ⟨F, env, O, f, st, e, post⟩ := h
  simp only [ex, reduceCtorEq] at e
theorem flP_trans {F : Addr → Prop} {f : Fl} {σ' : L2.St} {H' : Hp} {O' : List Addr} (h : flP K F Dn f σ' H' O') : flP K F Dn f σ' H' O' := h
theorem tS_ite {c : E} {a b : Ss} (h : tS K ios (ex Γ ios (.ite c a b)) Dn σ H) : tIfS (tT K (ev Γ ios c)) (tS K ios (exs Γ ios a)) (tS K ios (exs Γ ios b)) Dn σ H := by
  obtain ⟨F, env, O, f, st, e, post⟩ := h
  simp only [ex] at e
  rw [Option.bind_eq_some_iff] at e; obtain ⟨⟨d, env1⟩, e1, e⟩ := e
  cases d <;> simp only [reduceCtorEq] at e
  rename_i bb
  refine ⟨F, env, O, bb, env1, st, e1, fun H1 O1 ex1 st1 => ?_⟩
  cases bb with
  | true => rw [if_pos rfl]; exact ⟨F, env1, O1, f, st1, e, fun σ2 H2 O2 ex2 io hl => post σ2 H2 O2 (ex1.trans ex2) io hl⟩
  | false => rw [if_neg (by simp)]; exact ⟨F, env1, O1, f, st1, e, fun σ2 H2 O2 ex2 io hl => post σ2 H2 O2 (ex1.trans ex2) io hl⟩
theorem tS_app {i : Nat} {e : E} {Q : VK} (hQ : ∀ v H, Q v H ↔ Dn.nx σ H) (h : tS K ios (ex Γ ios (.app i [] e)) Dn σ H) : tBM K "list" rAppend (tVar i) (tCons (tE K (ev Γ ios e)) tNil) σ H Q := by
  obtain ⟨F, env, O, f, st, e, post⟩ := h
  simp only [ex] at e
  rw [Option.bind_eq_some_iff] at e; obtain ⟨d0, e0, e⟩ := e
  simp only [Option.ite_none_right_eq_some] at e
  obtain ⟨hl0, e⟩ := e
  rw [Option.bind_eq_some_iff] at e; obtain ⟨⟨d, env1⟩, e1, e⟩ := e
  rw [Option.bind_eq_some_iff] at e; obtain ⟨d2, e2, e⟩ := e
  rw [Option.map_eq_some_iff] at e; obtain ⟨d', e4, e⟩ := e
  subst e
  cases d0 <;> try (simp [isLstAt, getP] at hl0; done)
  rename_i o0 ds0
  obtain ⟨q, vs, hq, hH, hlv, hll⟩ := st.at_ref e0
  cases d2 <;> try (simp [setP] at e4; done)
  rename_i o ds
  cases o <;> try (simp [setP] at e4; done)
  simp only [setP] at e4
  rw [Option.map_eq_some_iff] at e4; obtain ⟨ds', e4, e5⟩ := e4
  simp only [Option.ite_none_right_eq_some, Option.some.injEq] at e4
  obtain ⟨hlt, e4⟩ := e4
  subst e5 e4
  refine ⟨.ref q, hq, ?_, F, env, O, d, env1, st, e1, fun v H1 O1 ex1 st1 => ?_⟩
  · exact .inl ⟨rfl, vs, .inl (.inl hH)⟩
  obtain ⟨OP, OR, rfl, st1', back1⟩ := St.tail (P := [d]) (pv := [some v]) st1 rfl
  obtain ⟨q2, vs2, hq2, hH2, hlv2, hll2⟩ := st1'.at_ref e2
  rw [hq] at hq2
  cases hq2
  refine ⟨q, vs2, v, rfl, rfl, hH2, by rw [hlv2]; exact hlt, ?_⟩
  obtain ⟨O4, ex4, st4⟩ := St.setSlot (ds' := ds ++ [d]) (vs' := vs2 ++ [v]) (dw := .hole) (w := .non) (i := i) st1 e2 hq hH2 (fun A On O1 nd rn r => by
    refine ⟨O1 ++ On, [], fun a ha => by simpa [or_comm] using ha, by simpa using List.perm_append_comm.nodup_iff.mp nd, RepL.snoc r rn, by simp [Rep]⟩) (by rw [List.length_append, List.length_singleton]; exact hlt)
  exact (hQ _ _).mpr (post σ _ O4 (ex1.trans ex4) (fun _ _ => rfl) rfl st4.unpush)
def itI : It → List Nat
  | .bor i => [i]
  | .enumB i => [i]
  | _ => []
theorem itI_ok {it : It} {env xs env1 : List D} {r : Option (Nat × D)} (h : evI Γ ios it env = some (xs, env1, r)) : putI r = itI it := by
  cases it with
  | bor i =>
    simp only [evI] at h
    rw [Option.bind_eq_some_iff] at h; obtain ⟨d, h1, h⟩ := h
    rw [Option.bind_eq_some_iff] at h; obtain ⟨ys, h2, h⟩ := h
    split at h
    · simp only [Option.some.injEq, Prod.mk.injEq] at h; obtain ⟨_, _, rfl⟩ := h; rfl
    · cases h
  | enumB i =>
    simp only [evI] at h
    rw [Option.bind_eq_some_iff] at h; obtain ⟨d, h1, h⟩ := h
    rw [Option.bind_eq_some_iff] at h; obtain ⟨ys, h2, h⟩ := h
    split at h
    · simp only [Option.some.injEq, Prod.mk.injEq] at h; obtain ⟨_, _, rfl⟩ := h; rfl
    · cases h
  | e a =>
    simp only [evI] at h
    rw [Option.bind_eq_some_iff] at h; obtain ⟨d, h1, h⟩ := h
    rw [Option.map_eq_some_iff] at h; obtain ⟨ys, h2, h⟩ := h
    simp only [Prod.mk.injEq] at h; obtain ⟨_, _, rfl⟩ := h; rfl
  | enum a =>
    simp only [evI] at h
    rw [Option.bind_eq_some_iff] at h; obtain ⟨d, h1, h⟩ := h
    rw [Option.map_eq_some_iff] at h; obtain ⟨ys, h2, h⟩ := h
    simp only [Prod.mk.injEq] at h; obtain ⟨_, _, rfl⟩ := h; rfl
  | rng1 a =>
    simp only [evI] at h
    rw [Option.bind_eq_some_iff] at h; obtain ⟨⟨d, e2⟩, h1, h⟩ := h
    cases d <;> simp only [reduceCtorEq] at h
    rw [Option.map_eq_some_iff] at h; obtain ⟨its, _, h⟩ := h
    simp only [Prod.mk.injEq] at h; obtain ⟨_, _, rfl⟩ := h; rfl
  | rng2 a b =>
    simp only [evI] at h
    rw [Option.bind_eq_some_iff] at h; obtain ⟨⟨d, e2⟩, h1, h⟩ := h
    rw [Option.bind_eq_some_iff] at h; obtain ⟨⟨d2, e3⟩, h2, h⟩ := h
    cases d <;> cases d2 <;> simp only [reduceCtorEq] at h
    rw [Option.map_eq_some_iff] at h; obtain ⟨its, _, h⟩ := h
    simp only [Prod.mk.injEq] at h; obtain ⟨_, _, rfl⟩ := h; rfl
  | rev a =>
    simp only [evI] at h
    rw [Option.bind_eq_some_iff] at h; obtain ⟨d, h1, h⟩ := h
    rw [Option.bind_eq_some_iff] at h; obtain ⟨ys, h2, h⟩ := h
    split at h
    · simp only [Option.some.injEq, Prod.mk.injEq] at h; obtain ⟨_, _, rfl⟩ := h; rfl
    · cases h
def mapF (r : Option (Nat × D)) : Fl → Fl
  | .nx e => .nx (putD r e)
  | .rt d e => .rt d (putD r e)
  | f => f
theorem tS_for {tg : Tg} {it : It} {body : Ss} (hlt : ∀ j ∈ tgS tg, j < σ.length) (h : tS K ios (ex Γ ios (.for_ tg it body)) Dn σ H) :
    tFor (tI K (evI Γ ios it)) (tG K (itI it ++ ios) tg) (tS K (itI it ++ ios) (exs Γ (itI it ++ ios) body)) Dn σ H := by
  obtain ⟨F, env, O, f, st, e, post⟩ := h
  simp only [ex] at e
  rw [Option.bind_eq_some_iff] at e; obtain ⟨⟨items, env1, r⟩, e1, e⟩ := e
  simp only [itI_ok e1] at e
  rw [Option.map_eq_some_iff] at e; obtain ⟨f0, e2, e⟩ := e
  have e3 : mapF r f0 = f := by rw [← e]; cases f0 <;> rfl
  clear e
  subst e3
  generalize hios : itI it ++ ios = ios' at e2 ⊢
  refine ⟨F, env, O, items, env1, r, st, e1, fun J CI CV H1 O1 ex1 itr bk st1 => ?_⟩
  have inI : ∀ j ∈ putI r, j ∈ ios' := fun j hj => by rw [itI_ok e1] at hj; rw [← hios]; exact List.mem_append_left _ hj
  have inO : ∀ j ∈ ios, j ∈ ios' := fun j hj => by rw [← hios]; exact List.mem_append_right _ hj
  generalize hstp : (fun env d => (bindT ios' tg d env).bind fun env1 => exs Γ ios' body env1) = stp at e2
  refine ⟨fun i m σ' H' => ∃ envi Oi, m = items.length - i ∧ i ≤ items.length ∧ loopF stp (items.drop i) envi = some f0 ∧ St K F H' (CI i ++ envi) (CV ++ σ') Oi ∧ Ext O1 H1 Oi H' ∧ (∀ j ∈ ios', σ'[j]? = σ[j]?) ∧ σ'.length = σ.length,
    ⟨items.length, env1, O1, by simp, Nat.zero_le _, by simpa using e2, st1, Ext.refl, fun _ _ => rfl, rfl⟩, ?_⟩
  rintro i m σ' H' ⟨envi, Oi, rfl, hi, et, sti, exi, ioi, hli⟩
  have hlen : ∀ {F : Addr → Prop} {n : Nat} {en : List D} {sg : L2.St} {Hh : Hp} {Oo : List Addr}, St K F Hh (CI n ++ en) (CV ++ sg) Oo → en.length = sg.length := by
    intro F n en sg Hh Oo s
    have h1 := s.rep.len
    have h2 := itr.len n
    simp only [List.length_append] at h1
    omega
  have fin : ∀ {n : Nat} {en : List D} {sg : L2.St} {Hh : Hp} {Oo : List Addr}, n ≤ items.length → St K F Hh (CI n ++ en) (CV ++ sg) Oo → Ext O1 H1 Oo Hh → (∀ j ∈ ios', sg[j]? = σ[j]?) → sg.length = σ.length → f0 = .nx en → Dn.nx sg Hh := by
    intro n en sg Hh Oo hn s exs io hl hf
    subst hf
    obtain ⟨O2, sub2, st2⟩ := bk _ _ _ sg _ _ hn (fun j hj => io j (inI j hj)) (hlen s) hl s
    exact post sg Hh O2 (ex1.trans (exs.less sub2)) (fun j hj => io j (inO j hj)) hl st2
  by_cases hlast : i = items.length
  · subst hlast
    rw [List.drop_length] at et
    simp only [loopF, Option.some.injEq] at et
    exact .inl ⟨itr.stop _ _ _ _ _ sti, fin (Nat.le_refl _) sti exi ioi hli et.symm⟩
  · have hi' : i < items.length := by omega
    obtain ⟨di, hdi⟩ : ∃ di, items[i]? = some di := ⟨items[i], List.getElem?_eq_getElem hi'⟩
    have hdrop : items.drop i = di :: items.drop (i + 1) := by
      rw [List.drop_eq_getElem_cons hi']
      rw [List.getElem?_eq_getElem hi'] at hdi
      rw [Option.some.inj hdi]
    rw [hdrop] at et
    simp only [loopF] at et
    obtain ⟨hgo, hy⟩ := itr.go i _ _ _ _ _ di hdi sti
    refine .inr ⟨hgo, fun σ'' H'' => ∃ envi Oi, i + 1 ≤ items.length ∧ loopF stp (items.drop (i + 1)) envi = some f0 ∧ St K F H'' (CI (i + 1) ++ envi) (CV ++ σ'') Oi ∧ Ext O1 H1 Oi H'' ∧ (∀ j ∈ ios', σ''[j]? = σ[j]?) ∧ σ''.length = σ.length,
      fun σ'' H'' ⟨envi', Oi', q1, q2, q3, q4, q5, q6⟩ => ⟨items.length - (i + 1), by omega, envi', Oi', rfl, q1, q2, q3, q4, q5, q6⟩, fun x H'' yl => ?_⟩
    obtain ⟨O5, ex5, st5⟩ := hy x H'' yl
    have st5' : St K F H'' ([di] ++ (CI (i + 1) ++ envi)) ([some x] ++ (CV ++ σ')) O5 := st5
    obtain ⟨O6, pm6, st6⟩ := St.swap2 st5' rfl (itr.len _).symm
    obtain ⟨OQ, OS, e10, s2, back2⟩ := St.tail (P := CI (i + 1)) (pv := CV) st6 (itr.len _).symm
    obtain ⟨fl, hfl⟩ : ∃ fl, stp envi di = some fl := by
      cases hq : stp envi di with
      | none => rw [hq] at et; cases et
      | some fl => exact ⟨fl, rfl⟩
    rw [hfl] at et
    have hfl' := hfl
    rw [← hstp] at hfl'
    simp only at hfl'
    rw [Option.bind_eq_some_iff] at hfl'
    obtain ⟨env2, hb, hbody⟩ := hfl'
    have exi6 : Ext O1 H1 O6 H'' := exi.trans (ex5.perm pm6)
    refine ⟨_, envi, OS, di, env2, s2, hb, fun j hj => by rw [hli]; exact hlt j hj, fun σ2 O9 sub9 st9 sm io => ⟨_, env2, O9, fl, st9, hbody, fun σ3 H3 O10 ex10 io3 hl3 => ?_⟩⟩
    have io4 : ∀ j ∈ ios', σ3[j]? = σ[j]? := fun j hj => (io3 j hj).trans ((io j hj).trans (ioi j hj))
    have hl4 : σ3.length = σ.length := by rw [hl3, sm.1, hli]
    have ex11 : Ext OS H'' O10 H3 := (Ext.refl.less sub9).trans ex10
    cases fl with
    | nx env3 =>
      intro st10
      obtain ⟨ex12, st12⟩ := back2 _ _ _ _ ex11 st10
      exact ⟨env3, _, hi', et, st12, exi6.trans ex12, io4, hl4⟩
    | ct env3 =>
      intro st10
      obtain ⟨ex12, st12⟩ := back2 _ _ _ _ ex11 st10
      exact ⟨env3, _, hi', et, st12, exi6.trans ex12, io4, hl4⟩
    | bk env3 =>
      intro st10
      obtain ⟨ex12, st12⟩ := back2 _ _ _ _ ex11 st10
      simp only [Option.some.injEq] at et
      exact fin hi' st12 (exi6.trans ex12) io4 hl4 et.symm
    | rt d env3 =>
      intro v st10
      obtain ⟨ex12, st12⟩ := back2 _ _ _ _ ex11 st10
      simp only [Option.some.injEq] at et
      subst et
      have st12' : St K F H3 (CI (i + 1) ++ ([d] ++ env3)) (CV ++ ([some v] ++ σ3)) (OQ ++ O10) := st12
      obtain ⟨O13, pm13, st13⟩ := St.swap2 st12' (itr.len _).symm rfl
      obtain ⟨OX, OY, e14, s14, back14⟩ := St.tail (P := [d]) (pv := [some v]) st13 rfl
      obtain ⟨O15, sub15, st15⟩ := bk _ _ _ σ3 _ _ hi' (fun j hj => io4 j (inI j hj)) (hlen s14) hl4 s14
      obtain ⟨ex16, st16⟩ := back14 _ _ _ H3 (Ext.refl.less sub15) st15
      exact post σ3 H3 _ (ex1.trans (exi6.trans ((ex12.perm pm13).trans ex16))) (fun j hj => io4 j (inO j hj)) hl4 v st16
theorem tS_whil {c : E} {body : Ss} (h : tS K ios (ex Γ ios (.whil c body)) Dn σ H) : tWhile (tT K (ev Γ ios c)) (tS K ios (exs Γ ios body)) Dn σ H := by
  obtain ⟨F, env, O, f, st, e, post⟩ := h
  simp only [ex] at e
  refine ⟨fun m σ' H' => ∃ envi Oi, loopW (ev Γ ios c) (exs Γ ios body) m envi = some f ∧ St K F H' envi σ' Oi ∧ Ext O H Oi H' ∧ (∀ j ∈ ios, σ'[j]? = σ[j]?) ∧ σ'.length = σ.length, ⟨wfuel, env, O, e, st, Ext.refl, fun _ _ => rfl, rfl⟩, ?_⟩
  rintro m σ' H' ⟨envi, Oi, et, sti, exi, ioi, hli⟩
  cases m with
  | zero => simp [loopW] at et
  | succ m =>
    simp only [loopW] at et
    split at et
    · rename_i env1 hc
      simp only [Option.some.injEq] at et
      subst et
      refine ⟨F, envi, Oi, false, env1, sti, hc, fun H1 O1 ex1 st1 => ?_⟩
      show if false = true then _ else _
      rw [if_neg (by simp)]
      exact post σ' H1 O1 (exi.trans ex1) ioi hli st1
    · rename_i env1 hc
      refine ⟨F, envi, Oi, true, env1, sti, hc, fun H1 O1 ex1 st1 => ?_⟩
      show if true = true then _ else _
      rw [if_pos rfl]
      refine ⟨fun σ'' H'' => ∃ envi Oi, loopW (ev Γ ios c) (exs Γ ios body) m envi = some f ∧ St K F H'' envi σ'' Oi ∧ Ext O H Oi H'' ∧ (∀ j ∈ ios, σ''[j]? = σ[j]?) ∧ σ''.length = σ.length, fun σ'' H'' q => ⟨m, Nat.lt_succ_self m, q⟩, ?_⟩
      cases hb : exs Γ ios body env1 with
      | none => rw [hb] at et; cases et
      | some fl =>
        rw [hb] at et
        refine ⟨F, env1, O1, fl, st1, hb, fun σ2 H2 O2 ex2 io2 hl2 => ?_⟩
        have ex3 : Ext O H O2 H2 := exi.trans (ex1.trans ex2)
        have io3 : ∀ j ∈ ios, σ2[j]? = σ[j]? := fun j hj => (io2 j hj).trans (ioi j hj)
        have hl3 : σ2.length = σ.length := hl2.trans hli
        cases fl with
        | nx e => exact fun s => ⟨e, O2, et, s, ex3, io3, hl3⟩
        | ct e => exact fun s => ⟨e, O2, et, s, ex3, io3, hl3⟩
        | bk e =>
          intro s
          simp only [Option.some.injEq] at et
          subst et
          exact post σ2 H2 O2 ex3 io3 hl3 s
        | rt d e =>
          intro v s
          simp only [Option.some.injEq] at et
          subst et
          exact post σ2 H2 O2 ex3 io3 hl3 v s
    · cases et
end
end OE

/-! OeD: a list deep in a tree is made longer. -/
namespace OE
open PySem PySem.Spec PyProof.Rows L2

section
variable {X : Cx} {K : PySem.W.Frag} {Γ : Fns} {ios : List Nat} {H : Hp} {env : List D} {σ : L2.St}
/-- one step down -/
def Step (K : PySem.W.Frag) (H : Hp) (env : List D) (v : V) (x : Ix) (w : V) : Prop := ∃ a k vs, v = .ref a ∧ ixv env x = some k ∧ (H a = some (.lst vs) ∨ SqT K H a vs) ∧ L2.atI vs k = some w
/-- down a path (the last step first; the first step first) -/
def AtV (K : PySem.W.Frag) (H : Hp) (env : List D) (v0 : V) : List Ix → V → Prop
  | [], v => v = v0
  | x :: r, v => ∃ u, AtV K H env v0 r u ∧ Step K H env u x v
def AtF (K : PySem.W.Frag) (H : Hp) (env : List D) : V → List Ix → V → Prop
  | v0, [], v => v = v0
  | v0, x :: r, v => ∃ w, Step K H env v0 x w ∧ AtF K H env w r v
theorem AtV.snoc {v0 : V} {x : Ix} : ∀ {r : List Ix} {v : V}, AtV K H env v0 (r ++ [x]) v ↔ ∃ w, Step K H env v0 x w ∧ AtV K H env w r v
  | [], v => by
    simp only [List.nil_append, AtV]
    exact ⟨fun ⟨u, e, s⟩ => ⟨v, by rw [← e]; exact s, rfl⟩, fun ⟨w, s, e⟩ => ⟨v0, rfl, by rw [e]; exact s⟩⟩
  | y :: r, v => by
    simp only [List.cons_append, AtV]
    exact ⟨fun ⟨u, h, s⟩ => by obtain ⟨w, s1, h1⟩ := AtV.snoc.mp h; exact ⟨w, s1, u, h1, s⟩, fun ⟨w, s1, u, h1, s⟩ => ⟨u, AtV.snoc.mpr ⟨w, s1, h1⟩, s⟩⟩
theorem AtF.rev : ∀ {xs : List Ix} {v0 v : V}, AtF K H env v0 xs v → AtV K H env v0 xs.reverse v
  | [], v0, v, h => h
  | x :: r, v0, v, ⟨w, s, h⟩ => by
    rw [List.reverse_cons]
    exact AtV.snoc.mpr ⟨w, s, AtF.rev h⟩
def rA (K : PySem.W.Frag) : R2 := fun x y H Q => ∃ a k vs w, x = .ref a ∧ y = .int k ∧ (H a = some (.lst vs) ∨ SqT K H a vs) ∧ L2.atI vs k = some w ∧ Q w H
theorem ix_A : IxR X (rA X.K) := by
  intro value slice pins s σ H x y v u Q I rx ry h hs
  obtain ⟨a, k, vs, w, rfl, rfl, h1, h2, q⟩ := h
  rcases h1 with h1 | h1
  · exact ix_list value slice pins s σ H _ _ v u Q I rx ry ⟨a, vs, k, w, rfl, rfl, .inl (.inl h1), h2, q⟩ hs
  · exact ix_tup value slice pins s σ H _ _ v u Q I rx ry ⟨a, vs, k, w, rfl, rfl, h1, h2, q⟩ hs
/-- the value at a place: which it is -/
def tPlA (K : PySem.W.Frag) (i : Nat) (rxs : List Ix) : TE := fun σ H Q => ∃ A env O v0 w, RepS K A H env σ O ∧ σ[i]? = some (some v0) ∧ AtV K H env v0 rxs w ∧ Q w H
theorem pe_plA {i : Nat} : ∀ {rxs : List Ix} {x : Expr}, plB X.N X.env.scope i rxs x = true → PE X x (tPlA X.K i rxs)
  | [], x, h => by
    refine (pe_nameB (i := i) h).imp fun σ H Q q => ?_
    obtain ⟨A0, env, O, v0, w, r, e1, e2, q⟩ := q
    obtain rfl : w = v0 := e2
    exact ⟨w, e1, q⟩
  | ix :: rxs, x, h => by
    cases x <;> simp only [plB, Bool.and_eq_true, Bool.false_eq_true] at h
    obtain ⟨h1, h2⟩ := h
    have ih := pe_plA h2
    obtain ⟨hx, hp⟩ := pe_ixE h1
    refine (pe_ix ix_A ih hx (ix_plain hp)).imp fun σ H Q q => ?_
    obtain ⟨A0, env, O, v0, w, r, e1, ⟨u, hu, a, k, vs, rfl, e4, e5, e6⟩, q⟩ := q
    exact ⟨A0, env, O, v0, .ref a, r, e1, hu, A0, env, O, k, r, e4, a, k, vs, w, rfl, rfl, e5, e6, q⟩
theorem RepL.deep {A : Addr → Prop} {c : Int} {d1 d1' : D} {P : V → Addr → Prop}
    (ih : ∀ {v1 : V} {O1 : List Addr}, Rep K A H d1 v1 O1 → O1.Nodup → (∀ a ∈ O1, A a) → ∃ q ws, q ∈ O1 ∧ H q = some (.lst ws) ∧ P v1 q ∧ ws.length < sizeLine ∧ Rep K A (upd H q (.lst (ws ++ [.int c]))) d1' v1 O1) :
    ∀ {ds : List D} {vs : List V} {O : List Addr} {j : Nat}, RepL K A H ds vs O → O.Nodup → (∀ a ∈ O, A a) → ds[j]? = some d1 → ∃ v1 q ws, vs[j]? = some v1 ∧ q ∈ O ∧ H q = some (.lst ws) ∧ P v1 q ∧ ws.length < sizeLine ∧ RepL K A (upd H q (.lst (ws ++ [.int c]))) (ds.set j d1') vs O
  | [], _, _, _, _, _, _, hj => by simp at hj
  | d0 :: ds, vs, O, 0, r, nd, hA, hj => by
    simp only [List.getElem?_cons_zero, Option.some.injEq] at hj
    subst hj
    simp only [RepL, Rep.RepL] at r
    obtain ⟨v0, vs', O1, O2, rfl, rfl, r1, r2⟩ := r
    have nd' := List.nodup_append.mp nd
    obtain ⟨q, ws, h1, h2, h3, h4, r3⟩ := ih r1 nd'.1 fun a ha => hA a (List.mem_append_left _ ha)
    refine ⟨v0, q, ws, rfl, List.mem_append_left _ h1, h2, h3, h4, ?_⟩
    simp only [RepL, List.set_cons_zero, Rep.RepL]
    refine ⟨v0, vs', O1, O2, rfl, rfl, r3, RepL.move ds r2 (fun b o e z => ?_) fun _ h _ => h⟩
    have : b ≠ q := by
      rintro rfl
      rcases z with z | z | z
      · exact nd'.2.2 b h1 b z rfl
      · exact z (hA b (List.mem_append_left _ h1))
      · rw [h2] at e; cases e; exact z _ rfl
    rw [upd_ne this]; exact e
  | d0 :: ds, vs, O, j + 1, r, nd, hA, hj => by
    simp only [RepL, Rep.RepL] at r
    obtain ⟨v0, vs', O1, O2, rfl, rfl, r1, r2⟩ := r
    have nd' := List.nodup_append.mp nd
    obtain ⟨v1, q, ws, h0, h1, h2, h3, h4, r3⟩ := RepL.deep (j := j) ih r2 nd'.2.1 (fun a ha => hA a (List.mem_append_right _ ha)) (by simpa using hj)
    refine ⟨v1, q, ws, by simpa using h0, List.mem_append_right _ h1, h2, h3, h4, ?_⟩
    simp only [RepL, List.set_cons_succ, Rep.RepL]
    refine ⟨v0, vs', O1, O2, rfl, rfl, Rep.move d0 r1 (fun b o e z => ?_) (fun _ h _ => h), r3⟩
    have : b ≠ q := by
      rintro rfl
      rcases z with z | z | z
      · exact nd'.2.2 b z b h1 rfl
      · exact z (hA b (List.mem_append_right _ h1))
      · rw [h2] at e; cases e; exact z _ rfl
    rw [upd_ne this]; exact e
theorem Rep.deep {A : Addr → Prop} {c : Int} : ∀ {xs : List Ix} {d d' : D} {v : V} {O : List Addr}, Rep K A H d v O → O.Nodup → (∀ a ∈ O, A a) → setP env (fun ds => if ds.length < lim then some (ds ++ [.int c]) else none) d xs = some d' →
    ∃ q ws, q ∈ O ∧ H q = some (.lst ws) ∧ AtF K H env v xs (.ref q) ∧ ws.length < sizeLine ∧ Rep K A (upd H q (.lst (ws ++ [.int c]))) d' v O
  | [], d, d', v, O, r, nd, hA, e => by
    cases d <;> try (simp [setP] at e; done)
    rename_i o ds
    cases o <;> try (simp [setP] at e; done)
    simp only [setP] at e
    rw [Option.map_eq_some_iff] at e; obtain ⟨ds', e4, e5⟩ := e
    simp only [Option.ite_none_right_eq_some, Option.some.injEq] at e4
    obtain ⟨hlt, e4⟩ := e4
    subst e5 e4
    simp only [Rep] at r
    obtain ⟨a, vs, O', rfl, rfl, hq, hl, r⟩ := r
    have nd' := List.nodup_cons.mp nd
    refine ⟨a, vs, List.mem_cons_self, hq, rfl, by rw [RepL.len r]; exact hlt, ?_⟩
    simp only [Rep]
    refine ⟨a, vs ++ [.int c], O', rfl, rfl, upd_same, by rw [List.length_append, List.length_singleton]; exact hlt, ?_⟩
    have := RepL.snoc (d := .int c) (v := .int c) (O2 := []) (RepL.move ds (H' := upd H a (.lst (vs ++ [.int c]))) (A' := A) r (fun b o e z => by
      have : b ≠ a := by
        rintro rfl
        rcases z with z | z | z
        · exact nd'.1 z
        · exact z (hA b List.mem_cons_self)
        · rw [hq] at e; cases e; exact z _ rfl
      rw [upd_ne this]; exact e) fun _ h _ => h) (by simp [Rep])
    rw [List.append_nil] at this
    exact this
  | x :: xs, d, d', v, O, r, nd, hA, e => by
    cases d <;> try (simp [setP] at e; done)
    case tup ds =>
      simp only [setP] at e
      rw [Option.bind_eq_some_iff] at e; obtain ⟨k, e1, e⟩ := e
      rw [Option.bind_eq_some_iff] at e; obtain ⟨j, e2, e⟩ := e
      rw [Option.bind_eq_some_iff] at e; obtain ⟨d1, e3, e⟩ := e
      rw [Option.map_eq_some_iff] at e; obtain ⟨d1', e4, e⟩ := e
      subst e
      simp only [Rep] at r
      obtain ⟨a, vs, rfl, ht, hl, r⟩ := r
      obtain ⟨v1, q, ws, h0, h1, h2, h3, h4, r3⟩ := RepL.deep (P := fun v1 q => AtF K H env v1 xs (.ref q)) (fun r1 n1 hA1 => Rep.deep r1 n1 hA1 e4) r nd hA e3
      refine ⟨q, ws, h1, h2, ⟨v1, ⟨a, k, vs, rfl, e1, .inr ht, ?_⟩, h3⟩, h4, ?_⟩
      · rw [L2.atI, RepL.len r, e2]; exact h0
      · simp only [Rep]
        refine ⟨a, vs, rfl, ?_, by rw [List.length_set]; exact hl, r3⟩
        rcases ht with ht | ht
        · refine .inl (OE.Rd.keep ht fun o e5 e6 => ?_)
          have : a ≠ q := by
            rintro rfl
            rw [h2] at e5; cases e5
            rcases e6 with e6 | ⟨b, e6⟩ <;> cases e6
          rw [upd_ne this]; exact e5
        · exact .inr ht
    case lst o ds =>
      cases o <;> try (simp [setP] at e; done)
      simp only [setP] at e
      rw [Option.bind_eq_some_iff] at e; obtain ⟨k, e1, e⟩ := e
      rw [Option.bind_eq_some_iff] at e; obtain ⟨j, e2, e⟩ := e
      rw [Option.bind_eq_some_iff] at e; obtain ⟨d1, e3, e⟩ := e
      rw [Option.map_eq_some_iff] at e; obtain ⟨d1', e4, e⟩ := e
      subst e
      simp only [Rep] at r
      obtain ⟨a, vs, O', rfl, rfl, hq, hl, r⟩ := r
      have nd' := List.nodup_cons.mp nd
      obtain ⟨v1, q, ws, h0, h1, h2, h3, h4, r3⟩ := RepL.deep (P := fun v1 q => AtF K H env v1 xs (.ref q)) (fun r1 n1 hA1 => Rep.deep r1 n1 hA1 e4) r nd'.2 (fun b hb => hA b (List.mem_cons_of_mem _ hb)) e3
      refine ⟨q, ws, List.mem_cons_of_mem _ h1, h2, ⟨v1, ⟨a, k, vs, rfl, e1, .inl hq, ?_⟩, h3⟩, h4, ?_⟩
      · rw [L2.atI, RepL.len r, e2]; exact h0
      · simp only [Rep]
        refine ⟨a, vs, O', rfl, rfl, ?_, by rw [List.length_set]; exact hl, r3⟩
        rw [upd_ne (fun (z : a = q) => nd'.1 (by rw [z]; exact h1))]; exact hq
theorem St.deep {F : Addr → Prop} {O : List Addr} {i : Nat} {d d' : D} {c : Int} {xs : List Ix} (st : St K F H env σ O) (h : getV env i = some d) (e : setP env (fun ds => if ds.length < lim then some (ds ++ [.int c]) else none) d xs = some d') :
    ∃ v q ws O', σ[i]? = some (some v) ∧ AtF K H env v xs (.ref q) ∧ H q = some (.lst ws) ∧ ws.length < sizeLine ∧ Ext O H O' (upd H q (.lst (ws ++ [.int c]))) ∧ St K F (upd H q (.lst (ws ++ [.int c]))) (env.set i d') σ O' := by
  obtain ⟨v, hv, O1, pm, st1⟩ := st.take h
  obtain ⟨nd, nf, fh, ov, σ', Oa, Ob, e1, rfl, r1, r2⟩ := st1
  simp only [List.cons.injEq] at e1
  obtain ⟨rfl, rfl⟩ := e1
  obtain ⟨v', e2, r1⟩ := r1.val (getV_some h).2
  cases e2
  have nd' := List.nodup_append.mp nd
  obtain ⟨q, ws, h1, h2, h3, h4, r3⟩ := Rep.deep r1 nd'.1 (fun a ha => .inr (List.mem_append_left _ ha)) e
  have hq : q ∈ Oa ++ Ob := List.mem_append_left _ h1
  have st2 : St K F (upd H q (.lst (ws ++ [.int c]))) (d' :: env.set i .hole) (some v :: σ) (Oa ++ Ob) := by
    refine ⟨nd, nf, fun a z => ?_, some v, σ, Oa, Ob, rfl, rfl, .inr ⟨v, rfl, r3⟩, r2.move (fun b o eb z => ?_) fun _ h _ => h⟩
    · by_cases ha : a = q
      · subst ha; rw [upd_same]; simp
      · rw [upd_ne ha]; exact fh a z
    · have : b ≠ q := by
        rintro rfl
        rcases z with z | z | z
        · exact nd'.2.2 b h1 b z rfl
        · exact z (.inr hq)
        · rw [h2] at eb; cases eb; exact z _ rfl
      rw [upd_ne this]; exact eb
  obtain ⟨O3, sub3, st3⟩ := st2.lay' (i := i) hv (by rw [List.length_set]; exact (List.getElem?_eq_some_iff.mp (getV_some h).1).1)
  rw [List.set_set] at st3
  exact ⟨v, q, ws, O3, hv, h3, h2, h4, ((Ext.set hq h2).perm' pm).less sub3, st3⟩
theorem tS_appC {Dn : Ends} {i : Nat} {xs : List Ix} {c : Int} {Q : VK} (hQ : ∀ v H, Q v H ↔ Dn.nx σ H) (h : tS K ios (ex Γ ios (.app i xs (.int c))) Dn σ H) : tBM K "list" rAppend (tPlA K i xs.reverse) (tCons (tC (.int c)) tNil) σ H Q := by
  obtain ⟨F, env, O, f, st, e, post⟩ := h
  simp only [ex, ev, Option.bind_some] at e
  rw [Option.bind_eq_some_iff] at e; obtain ⟨d0, e0, e⟩ := e
  simp only [Option.ite_none_right_eq_some] at e
  obtain ⟨hl0, e⟩ := e
  rw [Option.bind_eq_some_iff] at e; obtain ⟨d2, e2, e⟩ := e
  rw [Option.map_eq_some_iff] at e; obtain ⟨d', e4, e⟩ := e
  subst e
  obtain ⟨v, q, ws, O', hv, hat, hq, hlt, ex, st2⟩ := st.deep e2 e4
  exact ⟨_, env, O, v, .ref q, st.rep, hv, hat.rev, .inl ⟨rfl, ws, .inl (.inl hq)⟩, q, ws, .int c, rfl, rfl, hq, hlt, (hQ _ _).mpr (post σ _ O' ex (fun _ _ => rfl) rfl st2)⟩
end
end OE

/-! Oe18: does a statement of the text read so? -/
namespace OE
open PySem PySem.Spec PyProof.Rows L2

/-- is the list of the comprehension filled in the name itself? -/
def swB (sc : Scope) (y : Str) (py : Pos) : Expr → Bool
  | .ListComp _ _ s p => decide (sc.names.lookup y = some .local) && (py.line == p.line) && !(s.names.any fun (n, k) => n == y && (k == .local || k == .cell))
  | _ => false
def noSD : Expr → Bool
  | .SetComp .. => false
  | .DictComp .. => false
  | _ => true
def isCallX : Expr → Bool
  | .Call .. => true
  | _ => false
def isComp : E → Bool
  | .comp .. => true
  | .comp2 .. => true
  | _ => false
section
variable {X : Cx}
theorem sw_ok {x : Expr} {y : Str} {py : Pos} {line : Nat} (hk : X.env.scope.kind = .function) (hx : noSD x = true) : swapsWith x (some (.Name y py)) line X.env = pure (swB X.env.scope y py x) := by
  cases x <;> first | rfl | (simp [noSD] at hx; done) | skip
  rename_i elt gens s p
  have hb : X.env.blockKind = .function := by simp [Env.blockKind, hk, ScopeKind.isAnnotationScope]
  simp only [swapsWith, swB, hb, Env.kindOf]
  congr 1
  cases hq : X.env.scope.names.lookup y with
  | none => rfl
  | some q => cases q <;> rfl
theorem sw_none {x : Expr} {line : Nat} (hx : isCallX x = true) : swapsWith x none line X.env = pure false := by
  cases x <;> simp [isCallX] at hx <;> rfl
theorem sw_tup {x : Expr} {ts : List Expr} {kk : Nat} {p : Pos} {line : Nat} : swapsWithSole [.Tuple ts kk p] x line X.env = pure false := by
  cases x <;> rfl
theorem sw_sub {x a b : Expr} {p : Pos} {line : Nat} : swapsWithSole [.Subscript a b p] x line X.env = pure false := by
  cases x <;> rfl
theorem ss_tup {x : Expr} {ts : List Expr} {kk : Nat} {p : Pos} (h : isTuple x = false) : swappedStores [.Tuple ts kk p] x X.env = pure none := by
  cases x <;> first | (simp [isTuple] at h; done) | rfl
/-- a tuple's parts go to names of which not all are plain locals: no stores are swapped -/
def unpB (sc : Scope) : List Expr → Expr → Bool
  | [.Name a _, .Name b _], .Tuple _ _ _ => decide (sc.names.lookup a ≠ some .local) || decide (sc.names.lookup b ≠ some .local)
  | _, x => !isTuple x
theorem ss_unp {x : Expr} {ts : List Expr} {kk : Nat} {p : Pos} (h : unpB X.env.scope ts x = true) : swappedStores [.Tuple ts kk p] x X.env = pure none := by
  by_cases ht : isTuple x = true
  · unfold unpB at h
    split at h
    · rename_i a pa b pb vs k2 p2
      simp only [Bool.or_eq_true, decide_eq_true_eq] at h
      unfold swappedStores
      simp only [List.length_cons, List.length_nil]
      split
      · rfl
      · split
        · rfl
        · refine if_pos ?_
          simp only [List.filterMap_cons, List.filterMap_nil, Env.kindOf]
          rcases h with h | h
          · have : (X.env.scope.names.lookup a == some .local) = false := by rw [beq_eq_false_iff_ne]; exact h
            simp only [this, Bool.false_and, Bool.false_eq_true, if_false]
            first | done | (split <;> simp)
          · have : (X.env.scope.names.lookup b == some .local) = false := by rw [beq_eq_false_iff_ne]; exact h
            simp only [this, Bool.false_and, Bool.false_eq_true, if_false]
            first | done | (split <;> simp)
    · rw [ht] at h; exact absurd h (by decide)
  · exact ss_tup (by simpa using ht)
theorem ss_sub {x a b : Expr} {p : Pos} : swappedStores [.Subscript a b p] x X.env = pure none := by
  cases x <;> rfl
def parB (sc : Scope) (x y : Str) (px py : Pos) (a b : Expr) : Bool :=
  decide (sc.names.lookup x = some .local) && decide (sc.names.lookup y = some .local) && decide (py.line = px.line) && decide (x ≠ y) && plainX a && plainX b && ([a, b].all (foldedForSure 8) == false) && ([a, b].all (constantsAlone 8) == false)
theorem ss_par {x y : Str} {px py p p2 : Pos} {kt k2 : Nat} {a b : Expr} (hk : X.env.scope.kind = .function) (h : parB X.env.scope x y px py a b = true) : swappedStores [.Tuple [.Name x px, .Name y py] kt p] (.Tuple [a, b] k2 p2) X.env = pure (some [x, y]) := by
  simp only [parB, Bool.and_eq_true, decide_eq_true_eq, beq_iff_eq] at h
  obtain ⟨⟨⟨⟨⟨⟨⟨h1, h2⟩, h3⟩, h4⟩, h5⟩, h6⟩, h7⟩, h8⟩ := h
  have hb : X.env.blockKind = .function := by simp [Env.blockKind, hk, ScopeKind.isAnnotationScope]
  have hs : ([a, b].any fun | .Starred .. => true | _ => false) = false := by
    have : ∀ e : Expr, plainX e = true → (match e with | .Starred .. => true | _ => false) = false := fun e he => by cases e <;> first | rfl | (simp [plainX] at he)
    simp only [List.any_cons, List.any_nil, Bool.or_false, Bool.or_eq_false_iff]
    exact ⟨this a h5, this b h6⟩
  unfold swappedStores
  simp only [List.length_cons, List.length_nil, hb]
  refine (if_neg (by decide)).trans ((if_neg (fun z => ?_)).trans ?_)
  · exact absurd (z.symm.trans hs) (by decide)
  simp only [List.head?_cons, Option.map_some, Option.getD_some, List.filterMap_cons, Env.kindOf, h1, h2, h3, List.filterMap_nil, Expr.pos]
  simp only [beq_self_eq_true, Bool.and_self, if_true, List.length_cons, List.length_nil, h7, h8]
  have he : ([x, y].eraseDups).length = 2 := by
    simp [List.eraseDups_cons, List.filter_cons, Ne.symm h4, h4]
  rw [he]
  rfl
end
end OE

/-! Oe19: every block that reads so comes to what the evaluator says. -/
namespace OE
open PySem PySem.Spec PyProof.Rows L2

def isInt : E → Bool
  | .int _ => true
  | _ => false
mutual
def mS (M : Mc) (sc : Scope) : S → Stmt → Bool
  | .asg i e, st => match st with
    | .Assign [.Name y py] x _ => nameLB M.N sc i (.Name y py) && noSD x && mE M e sc x && (!swB sc y py x || isComp e)
    | _ => false
  | .par i j a b, st => match st with
    | .Assign [.Tuple [.Name x px, .Name y py] _ _] (.Tuple [u, w] _ _) _ => decide (M.N[i]? = some x) && decide (M.N[j]? = some y) && decide (i ≠ j) && parB sc x y px py u w && mE M a sc u && mE M b sc w
    | _ => false
  | .unp is e, st => match st with
    | .Assign [.Tuple xs kk p] x _ => tgB M.N sc (.tp is) (.Tuple xs kk p) && mE M e sc x && unpB sc xs x
    | _ => false
  | .seti i xs k e, st => match st with
    | .Assign [.Subscript (.Name n p) z _] x _ => decide (xs.length = 0) && nameB M.N sc i (.Name n p) && mE M k sc z && mE M e sc x && plainX z
    | _ => false
  | .app i xs e, st => match st with
    | .Expr (.Call (.Attribute o m ap) [x] [] pos) _ => decide (m = "append") && decide (ap.endLine = pos.line) && mE M e sc x && plainX x && (decide (xs.length = 0) && nameB M.N sc i o || isInt e && plB M.N sc i xs.reverse o)
    | _ => false
  | .ex e, st => match st with
    | .Expr x _ => isCallX x && mE M e sc x
    | _ => false
  | .ite c a b, st => match st with
    | .If x y z _ => mE M c sc x && mSs M sc a y && mSs M sc b z
    | _ => false
  | .for_ tg it body, st => match st with
    | .For t x y [] _ => mI M it sc t x && plainX x && tgB M.N sc tg t && mSs M sc body y
    | _ => false
  | .whil c body, st => match st with
    | .While x y [] _ => mE M c sc x && mSs M sc body y
    | _ => false
  | .ret e, st => match st with
    | .Return (some x) _ => mE M e sc x
    | _ => false
  | .retN, st => match st with
    | .Return none _ => true
    | _ => false
  | .pass, st => match st with
    | .Pass _ => true
    | .Expr (.Constant (.str _) _ _) _ => true
    | _ => false
  | .brk, st => match st with | .Break _ => true | _ => false
  | .cnt, st => match st with | .Continue _ => true | _ => false
  | .no, _ => true
def mSs (M : Mc) (sc : Scope) : Ss → List Stmt → Bool
  | .nil, sts => match sts with | [] => true | _ => false
  | .cons s r, sts => match sts with | st :: t => mS M sc s st && mSs M sc r t | [] => false
end
structure OkS (X : Cx) (k : Nat) (Γ : Fns) (M : Mc) : Prop where
  ok : OkM X k Γ M
  fnt : ∀ n, X.fn n = true
  xe : X.xe = fun _ _ => False
  kind : X.env.scope.kind = .function
theorem _root_.L2.PS.imp {X : Cx} {s : Stmt} {t t' : TS} (h : PS X s t) (i : ∀ D σ H, t' D σ H → t D σ H) : PS X s t' := ⟨fun pins s σ H D I w => h.run pins s σ H D I (i D σ H w)⟩
theorem _root_.L2.PSs.imp {X : Cx} {s : List Stmt} {t t' : TS} (h : PSs X s t) (i : ∀ D σ H, t' D σ H → t D σ H) : PSs X s t' := ⟨fun pins s σ H D I w => h.run pins s σ H D I (i D σ H w)⟩
section
variable {Γ : Fns} {k : Nat} {M : Mc} {X : Cx}
theorem OkS.pass (ok : OkS X k Γ M) : PassesOwn (model X.prog X.w) X.A X.env X.xe := by rw [ok.xe]; exact PassesOwn.never
theorem asg_sub {o z : Expr} {p2 : Pos} {v : Value} (h : plainX z = true) : assign (.Subscript o z p2) X.env v = (do
      let ov ← holding [v] (eval o X.env)
      let iv ← holding [v, ov] (eval z X.env)
      standAt p2
      holding [v, ov, iv] (setItem ov iv v)
      release [v, ov, iv] []) := by
  cases z <;> first | (simp [plainX] at h; done) | rfl
/-- name = [..], filled in the name itself -/
theorem ps_setComp {ios : List Nat} {i : Nat} {e : E} {x : Expr} {y : Str} {py pos : Pos} (ok : OkS X k Γ M) (hl : nameLB M.N X.env.scope i (.Name y py) = true) (hc : isComp e = true) (hm : mE M e X.env.scope x = true) (hs : swB X.env.scope y py x = true) :
    PS X (.Assign [.Name y py] x pos) (tS X.K ios (ex Γ ios (.asg i e))) := by
  have okm := ok.ok
  simp only [nameLB, Bool.and_eq_true, decide_eq_true_eq] at hl
  have hNi : X.N[i]? = some y := by rw [okm.N]; exact hl.1
  have hi : i < X.N.length := (List.getElem?_eq_some_iff.mp hNi).1
  have hsx := sw_ok (line := pos.line) (y := y) (py := py) ok.kind (show noSD x = true by cases x <;> first | rfl | (simp [swB] at hs))
  rw [hs] at hsx
  have hloc : X.env.scope.names.lookup y = some .local := by
    cases x <;> simp only [swB, Bool.false_eq_true, Bool.and_eq_true, decide_eq_true_eq] at hs
    exact hs.1.1
  cases e <;> simp only [isComp, Bool.false_eq_true] at hc
  case comp own elt tg it c cond =>
    simp only [mE] at hm
    split at hm
    · rename_i e t it' ifs scope lp
      simp only [Bool.and_eq_true, ← okm.N] at hm
      obtain ⟨⟨⟨⟨⟨⟨⟨hi2, hpi⟩, hblk⟩, ht1⟩, ht2⟩, hown⟩, he⟩, hcc⟩ := hm
      simp only [List.all_eq_true, decide_eq_true_eq] at hown
      have hlt := tgB_lt ht1
      have hT : ∀ (s : Shared) (H : Hp) (C : Addr) (cl : List (Str × Addr)) (fp : List Addr), PTs (X.blk s H scope (compEnvC scope cl C X.env) fp) ifs (condT X.K c (ev Γ ios cond)) := by
        intro s H C cl fp
        cases c with
        | none =>
          cases ifs with
          | nil => exact pts_nil
          | cons _ _ => simp at hcc
        | some u =>
          cases ifs with
          | nil => simp at hcc
          | cons d r =>
            cases r with
            | cons _ _ => simp at hcc
            | nil => exact pts_one (eOk cond (ios := ios) (okm.blk s H scope C cl fp) hcc).2
      refine (ps_setLc (pos := lp) (te := tE X.K (ev Γ ios elt)) okm.calm okm.nd hNi hloc hsx (iOk it (ios := ios) okm hi2) (blkOk_by hblk) (fun s H C cl fp => okm.pgB (ios := ios) ht1 ht2 s H C cl fp) hT (fun s H C cl fp => (eOk elt (ios := ios) (okm.blk s H scope C cl fp) he).1) (fun v => fold_plain hpi X.env v)).impN fun Dn σ H hlσ w => ?_
      rw [ownP_snd]
      refine tE_comp hown (fun j hj => by rw [hlσ]; exact hlt j hj) ?_
      have := tS_asg (by rw [hlσ]; exact hi) w
      have e : ∀ env, ev Γ ios (.comp own elt tg it c cond) env = (evI Γ ios it env).bind fun p => (turns (stepC ios own tg c (ev Γ ios cond) (ev Γ ios elt)) p.1 (wipeD p.2.1 own) []).map fun q => (.lst true q.1, putD p.2.2 (backD q.2 p.2.1 own)) := fun env => by
        simp only [ev]; rfl
      rw [show ev Γ ios (.comp own elt tg it c cond) = _ from funext e] at this
      exact this
    · cases hm
  case comp2 own own2 elt tg it tg2 it2 =>
    simp only [mE] at hm
    split at hm
    · rename_i e t it' t2 it2' scope lp
      simp only [Bool.and_eq_true, ← okm.N] at hm
      obtain ⟨⟨⟨⟨⟨⟨⟨⟨⟨⟨⟨⟨hi1, hpi⟩, hblk⟩, ht1⟩, ht2⟩, hown⟩, he⟩, hi2⟩, hpi2⟩, hu1⟩, hu2⟩, hown2⟩, hsub⟩ := hm
      simp only [List.all_eq_true, decide_eq_true_eq] at hown hown2 hsub
      have hlt := tgB_lt ht1
      have hlt2 := tgB_lt hu1
      refine (ps_setLc2 (pos := lp) (vs1 := own2) (te := tE X.K (ev Γ ios elt)) (wi1 := tI X.K (evI Γ ios it2)) okm.calm okm.nd hNi hloc hsx (iOk it (ios := ios) okm hi1) (blkOk_by hblk) (by rw [ownP_snd]; exact hsub) (fun s H C cl fp => okm.pgB (ios := ios) ht1 ht2 s H C cl fp) (fun s H C cl fp => pts_nil)
          (fun s H C cl fp => iOk it2 (ios := ios) (okm.blk s H scope C cl fp) hi2) (fun s H C cl fp => okm.pgB (ios := ios) hu1 hu2 s H C cl fp) (fun s H C cl fp => pts_nil) (fun s H C cl fp => (eOk elt (ios := ios) (okm.blk s H scope C cl fp) he).1)
          (fun v => fold_plain hpi X.env v) (fun env v => fold_plain hpi2 env v)).impN fun Dn σ H hlσ w => ?_
      rw [ownP_snd]
      refine tE_comp2 hown (fun j hj => by rw [hlσ]; exact hlt j hj) hown2 (fun j hj => by rw [hlσ]; exact hlt2 j hj) ?_
      have := tS_asg (by rw [hlσ]; exact hi) w
      have e : ∀ env, ev Γ ios (.comp2 own own2 elt tg it tg2 it2) env = (evI Γ ios it env).bind fun p => (turns2 (step2 ios own own2 tg tg2 (evI Γ ios it2) (ev Γ ios elt)) p.1 (wipeD p.2.1 own) []).bind fun q => if q.1.length ≤ lim then some (.lst true q.1, putD p.2.2 (backD q.2 p.2.1 own)) else none := fun env => by
        simp only [ev]; rfl
      rw [show ev Γ ios (.comp2 own own2 elt tg it tg2 it2) = _ from funext e] at this
      exact this
    · cases hm
mutual
theorem sOk : ∀ (s : S) {ios : List Nat} (ok : OkS X k Γ M) {st : Stmt}, mS M X.env.scope s st = true → PS X st (tS X.K ios (ex Γ ios s))
  | .asg i e, ios, ok, st, h => by
    simp only [mS] at h
    split at h
    · rename_i y py x pos
      simp only [Bool.and_eq_true, Bool.or_eq_true, Bool.not_eq_true'] at h
      obtain ⟨⟨⟨h1, h2⟩, h3⟩, h4⟩ := h
      by_cases hsw : swB X.env.scope y py x = true
      · refine ps_setComp ok h1 (h4.resolve_left (by rw [hsw]; simp)) h3 hsw
      · have hs := sw_ok (line := pos.line) (y := y) (py := py) ok.kind h2
        rw [show swB X.env.scope y py x = false by simpa using hsw] at hs
        simp only [nameLB, Bool.and_eq_true, decide_eq_true_eq] at h1
        have hNi : X.N[i]? = some y := by rw [ok.ok.N]; exact h1.1
        exact (ps_set ok.ok.nd hNi (locB_ok h1.2) (eOk e (ios := ios) ok.ok h3).1 hs (.inl (ok.fnt y))).impN fun Dn σ H hl w => tS_asg (by rw [hl]; exact (List.getElem?_eq_some_iff.mp hNi).1) w
    · cases h
  | .par i j a b, ios, ok, st, h => by
    simp only [mS] at h
    split at h
    · rename_i x px y py kt pt u w k2 p2 pos
      simp only [Bool.and_eq_true, decide_eq_true_eq, ← ok.ok.N] at h
      obtain ⟨⟨⟨⟨⟨h1, h2⟩, h3⟩, h4⟩, h5⟩, h6⟩ := h
      have hw := ss_par (p := pt) (kt := kt) (k2 := k2) (p2 := p2) ok.kind h4
      simp only [parB, Bool.and_eq_true, decide_eq_true_eq] at h4
      obtain ⟨⟨⟨⟨⟨⟨⟨q1, q2⟩, q3⟩, q4⟩, q5⟩, q6⟩, q7⟩, q8⟩ := h4
      refine (ps_par ok.ok.calm ok.ok.nd h1 h2 h3 q1 q2 (pa_cons (eOk a (ios := ios) ok.ok h5).1 (pa_cons (eOk b (ios := ios) ok.ok h6).1 pa_nil (star_plain q6 _ _)) (star_plain q5 _ _)) hw sw_tup).impN fun Dn σ H hl w => ?_
      exact tS_par (by rw [hl]; exact (List.getElem?_eq_some_iff.mp h1).1) (by rw [hl]; exact (List.getElem?_eq_some_iff.mp h2).1) w
    · cases h
  | .unp is e, ios, ok, st, h => by
    simp only [mS] at h
    split at h
    · rename_i xs kk p x pos
      simp only [Bool.and_eq_true, Bool.not_eq_true', ← ok.ok.N] at h
      obtain ⟨⟨h1, h2⟩, h3⟩ := h
      have hlt := tgB_lt h1
      exact (ps_asg (eOk e (ios := ios) ok.ok h2).1 (ok.ok.pg (ios := ios) ok.fnt h1) sw_tup (ss_unp h3)).impN fun Dn σ H hl w => tS_unp (fun j hj => by rw [hl]; exact hlt j hj) w
    · cases h
  | .seti i xs ke e, ios, ok, st, h => by
    simp only [mS] at h
    split at h
    · rename_i n p z p2 x pos
      simp only [Bool.and_eq_true, decide_eq_true_eq, ← ok.ok.N] at h
      obtain ⟨⟨⟨⟨h1, h2⟩, h3⟩, h4⟩, h5⟩ := h
      have hz : xs = [] := List.eq_nil_of_length_eq_zero h1
      subst hz
      exact (ps_asg (eOk e (ios := ios) ok.ok h4).1 (pg_sub (pe_nameB h2) (eOk ke (ios := ios) ok.ok h3).1 set_list (fun v => asg_sub h5)) sw_sub ss_sub).imp fun Dn σ H w => tS_seti w
    · cases h
  | .app i xs e, ios, ok, st, h => by
    simp only [mS] at h
    split at h
    · rename_i o m ap x pos p3
      simp only [Bool.and_eq_true, Bool.or_eq_true, decide_eq_true_eq, ← ok.ok.N] at h
      obtain ⟨⟨⟨⟨rfl, h3⟩, h4⟩, h5⟩, h6⟩ := h
      have hl3 : (ap.endLine == pos.line) = true := by rw [h3]; exact beq_self_eq_true _
      rcases h6 with ⟨h1, h2⟩ | ⟨h1, h2⟩
      · have hz : xs = [] := List.eq_nil_of_length_eq_zero h1
        subst hz
        obtain ⟨n, p, rfl⟩ := nameB_name h2
        have hpe := pe_bm (apos := ap) (cpos := pos) PySem.F.plainAttrs_list PySem.F.slot_list_append PySem.F.type_list_append (show MtR X "list.append" rAppend from mt_append) (pe_nameB h2) (pa_cons (eOk e (ios := ios) ok.ok h4).1 pa_nil (star_plain h5 _ _)) (by rfl) (by rw [star_plain h5]; rfl) hl3 (star_plain h5 _ _) (by rfl)
        exact (ps_expr hpe (sw_none rfl)).imp fun Dn σ H w => tS_app (Q := fun _ H1 => Dn.nx σ H1) (fun _ _ => Iff.rfl) w
      · cases e <;> simp only [isInt, Bool.false_eq_true] at h1
        rename_i c
        simp only [mE] at h4
        split at h4
        · rename_i kc pc
          obtain rfl := of_decide_eq_true h4
          have hb : attributeBase o "append" X.env (eval o X.env) = eval o X.env := by
            generalize xs.reverse = rx at h2
            cases rx with
            | nil => obtain ⟨n, p, rfl⟩ := nameB_name (by simpa only [plB] using h2); rfl
            | cons ix r => cases o <;> simp only [plB, Bool.false_eq_true] at h2; rfl
          have hpe := pe_bm (apos := ap) (cpos := pos) PySem.F.plainAttrs_list PySem.F.slot_list_append PySem.F.type_list_append (show MtR X "list.append" rAppend from mt_append) (pe_plA h2) (pa_cons (pe_int (X := X) (i := c) (j := kc) (pos := pc)) pa_nil) hb (by rfl) hl3 (by rfl) (by rfl)
          exact (ps_expr hpe (sw_none rfl)).imp fun Dn σ H w => tS_appC (Q := fun _ H1 => Dn.nx σ H1) (fun _ _ => Iff.rfl) w
        · cases h4
    · cases h
  | .ex e, ios, ok, st, h => by
    simp only [mS] at h
    split at h
    · simp only [Bool.and_eq_true] at h
      exact (ps_expr (eOk e (ios := ios) ok.ok h.2).1 (sw_none h.1)).imp fun Dn σ H w => tS_ex w
    · cases h
  | .ite c a b, ios, ok, st, h => by
    simp only [mS] at h
    split at h
    · simp only [Bool.and_eq_true] at h
      exact (ps_if (eOk c (ios := ios) ok.ok h.1.1).2 (ssOk a (ios := ios) ok h.1.2) (ssOk b (ios := ios) ok h.2)).imp fun Dn σ H w => tS_ite w
    · cases h
  | .for_ tg it body, ios, ok, st, h => by
    simp only [mS] at h
    split at h
    · simp only [Bool.and_eq_true, ← ok.ok.N] at h
      obtain ⟨⟨⟨h1, h2⟩, h3⟩, h4⟩ := h
      have hlt := tgB_lt h3
      exact (ps_for ok.pass ok.ok.calm (iOk it (ios := ios) ok.ok h1) (ok.ok.pg (ios := itI it ++ ios) ok.fnt h3) (ssOk body (ios := itI it ++ ios) ok h4) (fun v => fold_plain h2 X.env v)).impN fun Dn σ H hl w => tS_for (fun j hj => by rw [hl]; exact hlt j hj) w
    · cases h
  | .whil c body, ios, ok, st, h => by
    simp only [mS] at h
    split at h
    · simp only [Bool.and_eq_true] at h
      exact (ps_while ok.pass (eOk c (ios := ios) ok.ok h.1).2 (ssOk body (ios := ios) ok h.2)).imp fun Dn σ H w => tS_whil w
    · cases h
  | .ret e, ios, ok, st, h => by
    simp only [mS] at h
    split at h
    · exact (ps_ret (eOk e (ios := ios) ok.ok h).1).imp fun Dn σ H w => tS_ret w
    · cases h
  | .retN, ios, ok, st, h => by
    simp only [mS] at h
    split at h
    · exact ps_retN.imp fun Dn σ H w => tS_retN w
    · cases h
  | .pass, ios, ok, st, h => by
    simp only [mS] at h
    split at h
    · exact ps_pass.imp fun Dn σ H w => tS_pass w
    · exact ps_doc.imp fun Dn σ H w => tS_pass w
    · cases h
  | .brk, ios, ok, st, h => by
    simp only [mS] at h
    split at h
    · exact ps_break.imp fun Dn σ H w => tS_brk w
    · cases h
  | .cnt, ios, ok, st, h => by
    simp only [mS] at h
    split at h
    · exact ps_continue.imp fun Dn σ H w => tS_cnt w
    · cases h
  | .no, ios, ok, st, h => ps_never.imp fun Dn σ H w => tS_no w
theorem ssOk : ∀ (s : Ss) {ios : List Nat} (ok : OkS X k Γ M) {sts : List Stmt}, mSs M X.env.scope s sts = true → PSs X sts (tS X.K ios (exs Γ ios s))
  | .nil, ios, ok, [], h => pss_nil.imp fun Dn σ H w => tS_nil w
  | .nil, ios, ok, _ :: _, h => by simp [mSs] at h
  | .cons s r, ios, ok, [], h => by simp [mSs] at h
  | .cons s r, ios, ok, st :: sts, h => by
    simp only [mSs, Bool.and_eq_true] at h
    exact (pss_cons (sOk s (ios := ios) ok h.1) (ssOk r (ios := ios) ok h.2)).imp fun Dn σ H w => tS_cons w
end
/-! a def -/
/-- a def's body at its entry -/
def mFd (M : Mc) (f : Fd) (ps : List Str) (sc : Scope) (body : List Stmt) : Bool :=
  decide (f.np = ps.length) && decide (f.nl = M.N.length) && decide (ps.length ≤ M.N.length) && f.ios.all (fun j => decide (j < f.np)) && mSs M sc f.body body
theorem RepS.holes {K : PySem.W.Frag} {A : Addr → Prop} {H : Hp} : ∀ n : Nat, RepS K A H (List.replicate n .hole) (List.replicate n none) []
  | 0 => ⟨rfl, rfl⟩
  | n + 1 => ⟨none, List.replicate n none, [], [], rfl, rfl, .inl ⟨rfl, rfl⟩, RepS.holes n⟩
theorem RepS.pick {K : PySem.W.Frag} {A : Addr → Prop} {H : Hp} {ios : List Nat} : ∀ {n k : Nat} {env : List D} {σ : L2.St} {vs : List V} {O : List Addr}, RepS K A H env σ O → n ≤ env.length → vs.length = n → (∀ j, j < n → k + j ∈ ios → σ[j]? = some (vs[j]?)) →
    ∃ O', O'.Sublist O ∧ RepS K A H ((List.range n).map fun j => if k + j ∈ ios then env.getD j .hole else .hole) (vs.map some) O'
  | 0, k, env, σ, vs, O, r, hn, hv, hio => by
    have : vs = [] := List.eq_nil_of_length_eq_zero hv
    subst this
    exact ⟨[], by simp, rfl, rfl⟩
  | n + 1, k, [], σ, vs, O, r, hn, hv, hio => by simp at hn
  | n + 1, k, d :: env, σ, [], O, r, hn, hv, hio => by simp at hv
  | n + 1, k, d :: env, σ, v :: vs, O, r, hn, hv, hio => by
    obtain ⟨ov, σ', O1, O2, rfl, rfl, q1, q2⟩ := r
    obtain ⟨O', sl, q⟩ := RepS.pick (ios := ios) (n := n) (k := k + 1) (vs := vs) q2 (by simpa using hn) (by simpa using hv) (fun j hj hm => by
      have := hio (j + 1) (by omega) (by rw [show k + (j + 1) = k + 1 + j by omega]; exact hm)
      simpa using this)
    have e : (List.range (n + 1)).map (fun j => if k + j ∈ ios then (d :: env).getD j .hole else .hole) = (if k ∈ ios then d else .hole) :: (List.range n).map (fun j => if k + 1 + j ∈ ios then env.getD j .hole else .hole) := by
      rw [List.range_succ_eq_map, List.map_cons, List.map_map]
      refine List.cons_eq_cons.mpr ⟨by simp, List.map_congr_left fun j _ => ?_⟩
      simp only [Function.comp_apply, List.getD_cons_succ]
      rw [show k + (j + 1) = k + 1 + j by omega]
    rw [e]
    by_cases hk : k ∈ ios
    · rw [if_pos hk]
      have hov : ov = some v := by have := hio 0 (by omega) (by simpa using hk); simpa using this
      subst hov
      exact ⟨O1 ++ O', (List.Sublist.refl O1).append sl, some v, vs.map some, O1, O', rfl, rfl, q1, q⟩
    · rw [if_neg hk]
      exact ⟨O', sl.trans (List.sublist_append_right _ _), some v, vs.map some, [], O', rfl, rfl, .inl ⟨rfl, rfl⟩, q⟩
theorem shP_len (ios : List Nat) : ∀ (k : Nat) (ds : List D), (shP ios k ds).length = ds.length
  | _, [] => rfl
  | k, d :: ds => by simp [shP, shP_len ios (k + 1) ds]
theorem St.shares {K : PySem.W.Frag} {H : Hp} (ios : List Nat) : ∀ {ds : List D} {σ : L2.St} {F : Addr → Prop} {O : List Addr} (k : Nat), St K F H ds σ O → ∃ O', (∀ a ∈ O', a ∈ O) ∧ St K F H (shP ios k ds) σ O'
  | [], σ, F, O, k, st => ⟨O, fun _ h => h, st⟩
  | d :: ds, [], F, O, k, st => by have := st.rep.len; simp at this
  | d :: ds, ov :: σ, F, O, k, st => by
    obtain ⟨OP, OR, rfl, s1, back⟩ := St.tail (P := [d]) (pv := [ov]) st rfl
    obtain ⟨O1, sub1, s2⟩ := St.shares ios (k + 1) s1
    obtain ⟨_, s3⟩ := back _ _ _ H (Ext.refl.less sub1) s2
    have sub2 : ∀ a ∈ OP ++ O1, a ∈ OP ++ OR := fun a ha => by
      rcases List.mem_append.mp ha with ha | ha
      · exact List.mem_append_left _ ha
      · exact List.mem_append_right _ (sub1 a ha)
    have s3' : St K F H (d :: shP ios (k + 1) ds) (ov :: σ) (OP ++ O1) := s3
    by_cases hk : k ∈ ios
    · refine ⟨_, sub2, ?_⟩
      simp only [shP, if_pos hk]; exact s3'
    · simp only [shP, if_neg hk]
      obtain ⟨nd, nf, fh, ov2, σ2, Oa, Ob, e1, e2, q1, q2⟩ := id s3'
      simp only [List.cons.injEq] at e1
      obtain ⟨rfl, rfl⟩ := e1
      rcases q1 with ⟨rfl, _⟩ | ⟨v, rfl, _⟩
      · exact ⟨_, sub2, s3'⟩
      · obtain ⟨O4, sub4, s4⟩ := s3'.share
        obtain ⟨O5, sub5, s5⟩ := s4.dropTop
        exact ⟨O5, fun a ha => sub2 a (sub4 a (sub5 a ha)), s5⟩
/-- the body's promise is the def's -/
theorem tS_run {K : PySem.W.Frag} {f : Fd} {N : List Str} {vs : List V} {H : Hp} {Q : VK} {E : XK} (hn : f.nl = N.length) (hp : f.np ≤ N.length) (hio : ∀ j ∈ f.ios, j < f.np) (h : spD K f.np (runF Γ f) vs H Q E) :
    tS K f.ios (exs Γ f.ios f.body) { nx := fun _ H' => Q .non H', rt := Q } (L2.start N vs) H := by
  obtain ⟨hl, F, ds1, O0, d, outs, st1, e, post1⟩ := h
  simp only [runF] at e
  have hds1 : ds1.length = f.np := by have := st1.rep.len; simp only [List.length_map] at this; omega
  rw [if_pos hds1] at e
  obtain ⟨O, subO, st⟩ := st1.shares f.ios 0
  have hds : (shP f.ios 0 ds1).length = f.np := by rw [shP_len]; exact hds1
  generalize shP f.ios 0 ds1 = ds at st hds e
  have post : ∀ v H' O', Ext O H O' H' → St K F H' (d :: outs) (some v :: vs.map some) O' → Q v H' := fun v H' O' ex => post1 v H' O' (ex.more subO)
  have st0 : St K F H (ds ++ List.replicate (f.nl - f.np) .hole) (L2.start N vs) O := by
    refine ⟨st.nd, st.nf, st.fh, ?_⟩
    have := st.rep.append (RepS.holes (K := K) (A := fun a => F a ∨ a ∈ O) (H := H) (f.nl - f.np))
    rw [List.append_nil] at this
    rw [L2.start, ← hn, hl]
    exact this
  have hst : ∀ j, j < f.np → (L2.start N vs)[j]? = some (vs[j]?) := by
    intro j hj
    rw [L2.start, List.getElem?_append_left (by simp; omega), List.getElem?_map, List.getElem?_eq_getElem (by omega)]; rfl
  have hsl : (L2.start N vs).length = N.length := by simp [L2.start]; omega
  have key : ∀ {e : List D} {σ' : L2.St} {H' : Hp} {O' : List Addr} {d' : D} {v : V}, (∀ j ∈ f.ios, σ'[j]? = (L2.start N vs)[j]?) → σ'.length = (L2.start N vs).length → St K F H' (d' :: e) (some v :: σ') O' → ∃ O2 : List Addr, (∀ a ∈ O2, a ∈ O') ∧ St K F H' (d' :: outsOf f.ios f.np e) (some v :: vs.map some) O2 := by
    intro e σ' H' O' d' v io hlσ s
    obtain ⟨nd, nf, fh, ov, σ2, O1, O2, e1, rfl, q1, q2⟩ := s
    simp only [List.cons.injEq] at e1
    obtain ⟨rfl, rfl⟩ := e1
    have hel := q2.len
    obtain ⟨O3, sl, q3⟩ := RepS.pick (ios := f.ios) (n := f.np) (k := 0) (vs := vs) q2 (by omega) hl (fun j hj hm => by
      rw [Nat.zero_add] at hm
      rw [io j hm, hst j hj])
    have e2 : outsOf f.ios f.np e = (List.range f.np).map fun j => if 0 + j ∈ f.ios then e.getD j .hole else .hole := by
      rw [outsOf]
      exact List.map_congr_left fun j _ => by rw [Nat.zero_add]
    rw [e2]
    have sub : ∀ a ∈ O1 ++ O3, a ∈ O1 ++ O2 := ((List.Sublist.refl O1).append sl).subset
    have mv : ∀ x, ¬ (F x ∨ x ∈ O1 ++ O2) → H' x ≠ none → ¬ (F x ∨ x ∈ O1 ++ O3) := fun x hn _ z => hn (z.imp_right (sub x))
    exact ⟨O1 ++ O3, sub, nd.sublist ((List.Sublist.refl O1).append sl), fun a ha => nf a (sub a ha), fh, some v, vs.map some, O1, O3, rfl, rfl, q1.move (fun _ _ e _ => e) mv, q3.move (fun _ _ e _ => e) mv⟩
  split at e
  · rename_i d0 env0 hx
    simp only [Option.some.injEq, Prod.mk.injEq] at e
    obtain ⟨rfl, rfl⟩ := e
    refine ⟨F, _, O, _, st0, hx, fun σ' H' O' ex io hlσ v s => ?_⟩
    obtain ⟨O2, sub, s2⟩ := key io hlσ s
    exact post v H' O2 (ex.less sub) s2
  · rename_i env0 hx
    simp only [Option.some.injEq, Prod.mk.injEq] at e
    obtain ⟨rfl, rfl⟩ := e
    refine ⟨F, _, O, _, st0, hx, fun σ' H' O' ex io hlσ s => ?_⟩
    obtain ⟨O2, sub, s2⟩ := key (v := .non) (d' := .non) io hlσ (s.push fun A => by simp [Rep])
    exact post .non H' O2 (ex.less sub) s2
  · cases e
end
end OE

/-! Oe20: a whole program of defs. -/
namespace OE
open PySem PySem.Spec PyProof.Rows L2

/-- a look at the names of a def's scope -/
def scOk (N P : List Str) (sc : Scope) : Bool :=
  decide (sc.kind = .function) && (!sc.isCoroutine && !sc.isGenerator) && decide N.Nodup && decide (N.take P.length = P) && P.all (fun x => locB sc x) && sc.names.all (fun y => decide (y.2 ≠ .free))
theorem scOk_ok {N P : List Str} {sc : Scope} (h : scOk N P sc = true) : FnScope N P sc := by
  simp only [scOk, Bool.and_eq_true, Bool.not_eq_true', decide_eq_true_eq, List.all_eq_true] at h
  obtain ⟨⟨⟨⟨⟨h1, h2, h3⟩, h4⟩, h5⟩, h6⟩, h7⟩ := h
  exact ⟨h1, h2, h3, h4, h5, fun x hx => locB_ok (h6 x hx), h7⟩
structure PD where
  name : Str
  ps : List Str
  N : List Str
  params : Arguments
  body : List Stmt
  scope : Scope
  fd : Fd
def PD.mc (tab : List PD) (kl : List (Nat × List Str × List Nat)) (d : PD) : Mc := ⟨d.N, tab.map fun e => (e.name, e.ps), kl⟩
def PD.chk (tab : List PD) (kl : List (Nat × List Str × List Nat)) (d : PD) : Bool := mFd (d.mc tab kl) d.fd d.ps d.scope d.body && scOk d.N d.ps d.scope
/-- the def as it stands -/
structure PD.At (K : PySem.W.Frag) (mg : Str → Option Value) (kl : List (Nat × List Str × List Nat)) (i : Nat) (d : PD) (addr : Addr) (fdd : FuncData) : Prop where
  fn : FunD K d.name d.name d.params d.body d.scope [] [] addr fdd
  mgf : mg d.name = some (.ref addr)
  bd : Binds K fdd d.ps []
  kb : ∀ ks js, (i, ks, js) ∈ kl → KBinds K fdd d.ps ks (gK d.ps.length js) (gK d.ps.length js)
theorem kb_of {K : PySem.W.Frag} {x qual : Str} {params : Arguments} {body : List Stmt} {scope : Scope} {f : Addr} {fdd : FuncData} {ps ks : List Str} {js : List Nat} (F : FunD K x qual params body scope [] [] f fdd) (hp : ps ≠ [])
    (h : ∀ (kV doc pm : Value) (an : Option Addr) (cdv ct : Value) (ws : List Value), ws.length = ps.length → bindArgs (PySem.W.fnOf x qual params body scope .none kV doc pm an cdv ct) ⟨[], ks.zip ws⟩ = pure (ps.zip (permD js ws))) : KBinds K fdd ps ks (gK ps.length js) (gK ps.length js) := by
  obtain ⟨oc, od, dV, kV, doc, pm, an, cdv, ct, osl, rfl, lk, hcd, hD, hK⟩ := F.ex
  rcases hD with ⟨_, rfl⟩ | ⟨e, _⟩
  · refine ⟨fun s us ws _ hl => ?_, fun {vs us zs ws} r1 r2 => ?_⟩
    · cases us with
      | cons u us => exact absurd (List.eq_nil_of_length_eq_zero hl.symm) hp
      | nil =>
        by_cases hw : ws.length = ps.length
        · rw [show gK ps.length js [] ws = permD js ws from if_pos hw]
          exact .of_eq (h kV doc pm an cdv ct ws hw)
        · rw [show gK ps.length js [] ws = [] from if_neg hw] at hl
          exact absurd (List.eq_nil_of_length_eq_zero hl.symm) hp
    · cases r1 with
      | cons _ _ => exact .nil
      | nil =>
        by_cases hw : ws.length = ps.length
        · rw [show gK ps.length js [] ws = permD js ws from if_pos hw, show gK ps.length js [] zs = permD js zs from if_pos (r2.length.trans hw)]
          clear hw h
          induction js with
          | nil => exact .nil
          | cons j js ih =>
            simp only [permD, List.filterMap_cons] at ih ⊢
            have key : (zs[j]? = none ∧ ws[j]? = none) ∨ ∃ z w, zs[j]? = some z ∧ ws[j]? = some w ∧ RelV z w := by
              clear ih
              induction r2 generalizing j with
              | nil => exact .inl ⟨rfl, rfl⟩
              | cons a r ih2 =>
                cases j with
                | zero => exact .inr ⟨_, _, rfl, rfl, a⟩
                | succ j => exact ih2 j
            rcases key with ⟨e1, e2⟩ | ⟨z, w, e1, e2, r⟩
            · rw [e1, e2]; exact ih
            · rw [e1, e2]; exact .cons r ih
        · rw [show gK ps.length js [] ws = [] from if_neg hw, show gK ps.length js [] zs = [] from if_neg fun z => hw (r2.length.symm.trans z)]
          exact .nil
  · exact absurd rfl e
section
variable {P : Program} {w : World} {K : PySem.W.Frag} {mg : Str → Option Value} {base : Heap} {tab : List PD} {kl : List (Nat × List Str × List Nat)} {ad : Nat → Addr} {fs : Nat → FuncData}
theorem prog_ok (hc : ∀ d ∈ tab, d.chk tab kl = true) (ha : ∀ i d, tab[i]? = some d → PD.At K mg kl i d (ad i) (fs i)) (hb : ∀ n ∈ bltNames, mg n = none) :
    ∀ n i d, tab[i]? = some d → FnG P w K mg base CX0 n (ad i) (fs i) d.ps (spD K d.ps.length (evF (tab.map (·.fd)) n i)) := by
  intro n
  induction n with
  | zero =>
    intro i d hd
    refine ⟨fun vs H Q E h => h.1, fun A outer s H args us vs Q E _ hr e0 hbd r h => ?_⟩
    obtain ⟨_, F, ds, O, d0, outs, st, e, post⟩ := h
    simp [evF] at e
  | succ n ih =>
    intro i d hd
    have hck := hc d (List.mem_of_getElem? hd)
    simp only [PD.chk, mFd, Bool.and_eq_true, decide_eq_true_eq, List.all_eq_true] at hck
    obtain ⟨⟨⟨⟨⟨h1, h2⟩, h3⟩, h4⟩, h5⟩, h6⟩ := hck
    have hev : evF (tab.map (·.fd)) (n + 1) i = fun args => runF (evF (tab.map (·.fd)) n) d.fd args := by
      funext args
      simp only [evF, List.getElem?_map, hd, Option.map_some]
    have S := scOk_ok h6
    refine fnG_of (ha i d hd).fn S (fun vs H Q E h => h.1) fun cdv A outer s H vs Q E hgd hr h => ?_
    rw [hev] at h
    have okm : OkM (cxOf CX0 P w K mg base d.N d.name d.scope (ad i) cdv A outer s H E).nox n (evF (tab.map (·.fd)) n) (d.mc tab kl) := by
      refine ⟨rfl, S.nd, rfl, hr, hgd, hb, fun f nm ps hf => ?_, fun f nm ps hf ds r hr2 => ?_⟩
      · have hf' : (tab.map fun e => (e.name, e.ps))[f]? = some (nm, ps) := hf
        rw [List.getElem?_map, Option.map_eq_some_iff] at hf'
        obtain ⟨d', hd', e⟩ := hf'
        simp only [Prod.mk.injEq] at e
        obtain ⟨rfl, rfl⟩ := e
        have A' := ha f d' hd'
        exact ⟨ad f, fs f, A'.mgf, ih f d' hd', A'.fn.kp, A'.bd, A'.kb⟩
      · have hf' : (tab.map fun e => (e.name, e.ps))[f]? = some (nm, ps) := hf
        rw [List.getElem?_map, Option.map_eq_some_iff] at hf'
        obtain ⟨d', hd', e⟩ := hf'
        simp only [Prod.mk.injEq] at e
        obtain ⟨rfl, rfl⟩ := e
        have hck' := hc d' (List.mem_of_getElem? hd')
        simp only [PD.chk, mFd, Bool.and_eq_true, decide_eq_true_eq] at hck'
        rw [← hck'.1.1.1.1.1]
        cases n with
        | zero => simp [evF] at hr2
        | succ m =>
          simp only [evF, List.getElem?_map, hd', Option.map_some, runF] at hr2
          split at hr2
          · rename_i hl; exact hl
          · cases hr2
    have oks : OkS (cxOf CX0 P w K mg base d.N d.name d.scope (ad i) cdv A outer s H E).nox n (evF (tab.map (·.fd)) n) (d.mc tab kl) := ⟨okm, fun _ => rfl, rfl, S.kind⟩
    have hb5 := ssOk (X := (cxOf CX0 P w K mg base d.N d.name d.scope (ad i) cdv A outer s H E).nox) d.fd.body (ios := d.fd.ios) oks h5
    refine ⟨_, PSs.nox hb5, ?_⟩
    rw [← h1] at h
    exact tS_run (N := d.N) h2 (by rw [h1]; exact h3) h4 h
end
/-- the law's promise: if the evaluator says true on every script -/
theorem law_sp {K : PySem.W.Frag} {ev1 : List D → Option (D × List D)} {n : Nat} (h : ∀ ns : List Int, ns.length ≤ n → ∃ outs, ev1 [.scr ns] = some (.bl true, outs)) (H : Hp) (a : Addr) (ns : List Int) (hl : ns.length ≤ n) (ho : Only H) (hs : SqL K H a (ns.map V.int)) :
    spD K 1 ev1 [.ref a] H (fun v _ => v = .bl true) fun _ _ _ => False := by
  obtain ⟨outs, e⟩ := h ns hl
  refine ⟨rfl, fun _ => False, [.scr ns], [], .bl true, outs, ⟨List.nodup_nil, fun _ h => (nomatch h), fun _ h => False.elim h, ?_⟩, e, fun v H' O' _ st => ?_⟩
  · refine ⟨some (.ref a), [], [], [], rfl, rfl, .inr ⟨_, rfl, ?_⟩, rfl, rfl⟩
    simp only [Rep]
    refine ⟨trivial, a, rfl, ?_⟩
    rcases hs with (hs | ⟨o, hs⟩) | ⟨o, its, m, h1, h2, h3, h4, h5, h6⟩
    · rcases ho a with q | ⟨o, xs, q⟩
      · rw [hs] at q; cases q
      · rw [hs] at q; cases q
    · exact .inl ⟨o, hs⟩
    · exact .inr ⟨o, its, m, h1, h2, h3, h4, h5, h6⟩
  · exact (St.blTop st).1
end OE

/-! K14m0: plain laws of the evaluator. -/
namespace OE
open PySem PySem.Spec PyProof.Rows L2

abbrev LI (ns : List Int) : D := .lst false (ns.map D.int)
abbrev LLI (ts : List (List Int)) : D := .lst false (ts.map LI)
abbrev TI (ns : List Int) : D := .tup (ns.map D.int)
theorem share_ints (ns : List Int) : (ns.map D.int).map share = ns.map D.int := by
  rw [List.map_map]; exact List.map_congr_left fun _ _ => rfl
@[simp] theorem share_LI (o : Bool) (ns : List Int) : share (.lst o (ns.map D.int)) = LI ns := by
  show D.lst false (share.shareL _) = _
  rw [shareL_map, share_ints]
@[simp] theorem share_TI (ns : List Int) : share (TI ns) = TI ns := by
  show D.tup (share.shareL _) = _
  rw [shareL_map, share_ints]
@[simp] theorem share_LLI (ts : List (List Int)) : share (LLI ts) = LLI ts := by
  show D.lst false (share.shareL _) = _
  rw [shareL_map, List.map_map]
  exact congrArg _ (List.map_congr_left fun t _ => share_LI false t)
@[simp] theorem share_LLIo (o : Bool) (fl : List Int → Bool) (ts : List (List Int)) : share (.lst o (ts.map fun t => D.lst (fl t) (t.map D.int))) = LLI ts := by
  show D.lst false (share.shareL _) = _
  rw [shareL_map, List.map_map]
  exact congrArg _ (List.map_congr_left fun t _ => share_LI (fl t) t)
@[simp] theorem share_int (i : Int) : share (.int i) = .int i := rfl
@[simp] theorem share_bl (i : Bool) : share (.bl i) = .bl i := rfl
@[simp] theorem share_non : share .non = .non := rfl
@[simp] theorem share_hole : share .hole = .hole := rfl
@[simp] theorem share_scr (ns : List Int) : share (.scr ns) = .scr ns := rfl
@[simp] theorem share_pair (a b : D) : share (.tup [a, b]) = .tup [share a, share b] := rfl
@[simp] theorem noOwn_int (i : Int) : noOwn (.int i) = true := rfl
@[simp] theorem noOwn_bl (i : Bool) : noOwn (.bl i) = true := rfl
@[simp] theorem noOwn_pair (a b : D) : noOwn (.tup [a, b]) = (noOwn a && (noOwn b && true)) := rfl
theorem noOwn_ints (ns : List Int) : noOwn.noOwnL (ns.map D.int) = true := by
  induction ns with
  | nil => rfl
  | cons a r ih => simpa [noOwn.noOwnL, noOwn] using ih
@[simp] theorem noOwn_LI (ns : List Int) : noOwn (LI ns) = true := by simp [noOwn, noOwn_ints]
@[simp] theorem noOwn_TI (ns : List Int) : noOwn (TI ns) = true := by simp [noOwn, noOwn_ints]
@[simp] theorem noOwn_LLI (ts : List (List Int)) : noOwn (LLI ts) = true := by
  simp only [noOwn, Bool.not_false, Bool.true_and]
  induction ts with
  | nil => rfl
  | cons a r ih => simpa [noOwn.noOwnL, noOwn, noOwn_ints] using ih
theorem turns_map {α : Type} {step : List D → D → Option (Option D × List D)} {env : List D} (f g : α → D) : ∀ (xs : List α) (acc : List D), (∀ x ∈ xs, step env (f x) = some (some (g x), env)) → turns step (xs.map f) env acc = some (acc ++ xs.map g, env)
  | [], acc, h => by simp [turns]
  | x :: xs, acc, h => by
    simp only [List.map_cons, turns, h x List.mem_cons_self]
    rw [turns_map f g xs _ fun y hy => h y (List.mem_cons_of_mem _ hy)]
    simp
theorem turns_filt {α : Type} {step : List D → D → Option (Option D × List D)} {env : List D} (f : α → D) (g : α → Option D) : ∀ (xs : List α) (acc : List D), (∀ x ∈ xs, step env (f x) = some (g x, env)) → turns step (xs.map f) env acc = some (acc ++ xs.filterMap g, env)
  | [], acc, h => by simp [turns]
  | x :: xs, acc, h => by
    have h1 := h x List.mem_cons_self
    have ih := turns_filt (step := step) (env := env) f g xs
    simp only [List.map_cons, turns, h1]
    cases hg : g x with
    | none => simp only [List.filterMap_cons, hg]; exact ih _ fun y hy => h y (List.mem_cons_of_mem _ hy)
    | some z => simp only [List.filterMap_cons, hg]; rw [ih _ fun y hy => h y (List.mem_cons_of_mem _ hy)]; simp
@[simp] theorem allInts_map (ns : List Int) : allInts (ns.map D.int) = some ns := by
  induction ns with
  | nil => rfl
  | cons a r ih => simp [allInts, ih]
theorem enumD_map {α : Type} (f : α → D) (xs : List α) : enumD (xs.map f) = xs.zipIdx.map fun p => .tup [.int (p.2 : Nat), f p.1] := by
  simp [enumD, List.zipIdx_map, Function.comp_def]
@[simp] theorem getV_lst (o : Bool) (xs : List D) (env : List D) : getV (.lst o xs :: env) 0 = some (.lst o xs) := rfl
@[simp high] theorem atI_nat {α : Type} (xs : List α) (i : Nat) : L2.atI xs (i : Int) = xs[i]? := by
  unfold L2.atI L2.ixN
  rw [if_pos (Int.natCast_nonneg i)]
  by_cases h : i < xs.length
  · rw [if_pos (by omega)]; simp
  · rw [if_neg (by omega)]; simp; omega
@[simp] theorem atI_0 {α : Type} (a : α) (l : List α) : L2.atI (a :: l) 0 = some a := atI_nat (a :: l) 0
@[simp] theorem atI_1 {α : Type} (a b : α) (l : List α) : L2.atI (a :: b :: l) 1 = some b := atI_nat (a :: b :: l) 1
@[simp] theorem atI_2 {α : Type} (a b c : α) (l : List α) : L2.atI (a :: b :: c :: l) 2 = some c := atI_nat (a :: b :: c :: l) 2
@[simp] theorem eq_nil_nil (o o' : Bool) : eqD (.lst o []) (.lst o' []) = some true := by
  have h : PyData.eqvAll [] [] = true := by unfold PyData.eqvAll; rfl
  simp [eqD, plainD, plainD.plainL, within, toPy, toPy.toPyL, PyData.eqv, h]
@[simp] theorem eq_ii (i j : Int) : eqD (.int i) (.int j) = some (i == j) := eqD_int i j
@[simp] theorem filterMap_none' {α β : Type} (l : List α) : l.filterMap (fun _ => (none : Option β)) = [] := by
  induction l with
  | nil => rfl
  | cons a l ih => simp [ih]
theorem loopF_fold {α β : Type} {step : List D → D → Option Fl} (f : α → D) (E : β → List D) (g : β → α → β) : ∀ (xs : List α) (b : β), (∀ b, ∀ x ∈ xs, step (E b) (f x) = some (.nx (E (g b x)))) → loopF step (xs.map f) (E b) = some (.nx (E (xs.foldl g b)))
  | [], b, h => rfl
  | x :: xs, b, h => by
    simp only [List.map_cons, loopF, h b x List.mem_cons_self, List.foldl_cons]
    exact loopF_fold f E g xs (g b x) fun b y hy => h b y (List.mem_cons_of_mem _ hy)
theorem p62 : (2 : Int) ^ 62 = 4611686018427387904 := by decide
theorem small_nat (i : Nat) (h : i ≤ 1000000) : small (i : Int) = true := by
  unfold small
  rw [p62, Bool.and_eq_true, chk_iff, chk_iff]
  omega
theorem rngOk_nat (a b : Nat) (ha : a ≤ 1000000) (hb : b ≤ 1000000) : rngOk (a : Int) (b : Int) = true := by
  unfold rngOk
  rw [small_nat a ha, small_nat b hb, Bool.true_and, Bool.true_and, chk_iff]
  show _ ≤ sizeLine
  rw [sizeLine_eq]
  omega
theorem rngD_nat (a b : Nat) : rngD (a : Int) (b : Int) = (List.range (b - a)).map fun i => .int ((a + i : Nat) : Int) := by
  unfold rngD
  rw [show ((b : Int) - (a : Int)).toNat = b - a by omega]
  exact List.map_congr_left fun i _ => by simp
@[simp] theorem rngOk_one (b : Nat) (hb : b ≤ 1000000) : rngOk 1 (b : Int) = true := rngOk_nat 1 b (by decide) hb
@[simp] theorem rngOk_zero (b : Nat) (hb : b ≤ 1000000) : rngOk 0 (b : Int) = true := rngOk_nat 0 b (by decide) hb
theorem rngD_one (b : Nat) : rngD 1 (b : Int) = (List.range (b - 1)).map fun i => .int ((i + 1 : Nat) : Int) := (rngD_nat 1 b).trans (List.map_congr_left fun i _ => by rw [Nat.add_comm])
theorem rngD_one' (b : Nat) : rngD 1 (b : Int) = (List.range (b - 1)).map fun i : Nat => .int ((i : Int) + 1) := (rngD_one b).trans (List.map_congr_left fun i _ => by simp)
theorem rngD_zero (b : Nat) : rngD 0 (b : Int) = (List.range b).map fun i => .int (i : Nat) := (rngD_nat 0 b).trans (by simp)
theorem rngs_one (b : Nat) (hb : b ≤ 1000000) : rngs 1 (b : Int) = some ((List.range (b - 1)).map fun i : Nat => .int ((i : Int) + 1)) := by
  rw [rngs, if_pos (rngOk_one b hb), rngD_one']
theorem rngs_zero (b : Nat) (hb : b ≤ 1000000) : rngs 0 (b : Int) = some ((List.range b).map fun i : Nat => .int (i : Nat)) := by
  rw [rngs, if_pos (rngOk_zero b hb), rngD_zero]
theorem atI_succ {α : Type} (xs : List α) (i : Nat) : L2.atI xs ((i : Int) + 1) = xs[i + 1]? := atI_nat xs (i + 1)
theorem filterMap_if {α β : Type} (p : α → Prop) [DecidablePred p] (f : α → β) (l : List α) : l.filterMap (fun x => if p x then some (f x) else none) = (l.filter fun x => decide (p x)).map f := by
  induction l with
  | nil => rfl
  | cons a l ih => by_cases h : p a <;> simp [List.filterMap_cons, List.filter_cons, h, ih]
theorem foldl_fst {α β γ : Type} (g : β → α → β) (h : β → α → γ) : ∀ (l : List α) (b : β) (c : γ), (l.foldl (fun (q : β × γ) x => (g q.1 x, h q.1 x)) (b, c)).1 = l.foldl g b
  | [], _, _ => rfl
  | x :: l, b, c => by simp only [List.foldl_cons]; exact foldl_fst g h l _ _
abbrev TN (b : List Nat) : D := .tup (b.map fun c : Nat => D.int (c : Nat))
@[simp] theorem share_TN (b : List Nat) : share (TN b) = TN b := by
  have : TN b = TI (b.map fun c : Nat => (c : Int)) := by simp [TN, TI]
  rw [this]; exact share_TI _
@[simp] theorem noOwn_TN (b : List Nat) : noOwn (TN b) = true := by
  have : TN b = TI (b.map fun c : Nat => (c : Int)) := by simp [TN, TI]
  rw [this]; exact noOwn_TI _
theorem turns2_map {α : Type} {step : List D → D → List D → Option (List D × List D)} {env : List D} (f : α → D) (g : α → List D) : ∀ (xs : List α) (acc : List D), (∀ acc, ∀ x ∈ xs, step env (f x) acc = some (acc ++ g x, env)) → turns2 step (xs.map f) env acc = some (acc ++ (xs.map g).flatten, env)
  | [], acc, h => by simp [turns2]
  | x :: xs, acc, h => by
    simp only [List.map_cons, turns2, h acc x List.mem_cons_self, Option.bind_some]
    rw [turns2_map (step := step) (env := env) f g xs _ fun acc y hy => h acc y (List.mem_cons_of_mem _ hy)]
    simp
theorem exs_nx {Γ : Fns} {ios : List Nat} {s : S} {r : Ss} {env env' : List D} (h : ex Γ ios s env = some (.nx env')) : exs Γ ios (.cons s r) env = exs Γ ios r env' := by
  simp only [exs, h]
theorem exs_rt {Γ : Fns} {ios : List Nat} {s : S} {r : Ss} {env env' : List D} {d : D} (h : ex Γ ios s env = some (.rt d env')) : exs Γ ios (.cons s r) env = some (.rt d env') := by
  simp only [exs, h]
theorem ex_for {Γ : Fns} {ios : List Nat} {tg : Tg} {it : It} {body : Ss} {env env1 items : List D} {r : Option (Nat × D)} {f : Fl} (hit : evI Γ ios it env = some (items, env1, r))
    (hl : loopF (fun env d => (bindT (putI r ++ ios) tg d env).bind fun env1 => exs Γ (putI r ++ ios) body env1) items env1 = some f) : ex Γ ios (.for_ tg it body) env = some (mapF r f) := by
  simp only [ex, hit, Option.bind_some, hl, Option.map_some]
  cases f <;> rfl
theorem getV_def (env : List D) (i : Nat) (d : D) (h : env[i]? = some d) (hd : d ≠ .hole) : getV env i = some d := by
  unfold getV
  split
  · rename_i h2; rw [h] at h2; cases h2; exact absurd rfl hd
  · exact h
end OE

/-! OeM: plain laws of the evaluator, second part. -/
namespace OE
open PySem PySem.Spec PyProof.Rows L2
inductive F2 {α β : Type} (R : α → β → Prop) : List α → List β → Prop
  | nil : F2 R [] []
  | cons {a b l m} : R a b → F2 R l m → F2 R (a :: l) (b :: m)
theorem turns_rel {α : Type} {step : List D → D → Option (Option D × List D)} (f : α → D) (I : Nat → List D → Prop) (R : α → D → Prop) : ∀ (xs : List α) (k : Nat) (env acc : List D), I k env → (∀ k' env x, x ∈ xs → k' < k + xs.length → I k' env → ∃ y env', step env (f x) = some (some y, env') ∧ R x y ∧ I (k' + 1) env') →
    ∃ ys env', turns step (xs.map f) env acc = some (acc ++ ys, env') ∧ F2 R xs ys ∧ I (k + xs.length) env'
  | [], k, env, acc, hI, h => ⟨[], env, by simp [turns], .nil, hI⟩
  | x :: xs, k, env, acc, hI, h => by
    obtain ⟨y, env1, e, r, hI1⟩ := h k env x List.mem_cons_self (by simp) hI
    obtain ⟨ys, env2, e2, r2, hI2⟩ := turns_rel (step := step) f I R xs (k + 1) env1 (acc ++ [y]) hI1 fun k' env x hx hk => h k' env x (List.mem_cons_of_mem _ hx) (by simp only [List.length_cons]; omega)
    refine ⟨y :: ys, env2, ?_, .cons r r2, by rw [List.length_cons, Nat.add_comm xs.length, ← Nat.add_assoc]; exact hI2⟩
    simp only [List.map_cons, turns, e, e2]
    simp
theorem loop_rel {α : Type} {step : List D → D → Option Fl} (f : α → D) (I : Nat → List D → Prop) : ∀ (xs : List α) (k : Nat) (env : List D), I k env → (∀ k env x, x ∈ xs → I k env → ∃ env', step env (f x) = some (.nx env') ∧ I (k + 1) env') →
    ∃ env', loopF step (xs.map f) env = some (.nx env') ∧ I (k + xs.length) env'
  | [], k, env, hI, h => ⟨env, rfl, hI⟩
  | x :: xs, k, env, hI, h => by
    obtain ⟨env1, e, hI1⟩ := h k env x List.mem_cons_self hI
    obtain ⟨env2, e2, hI2⟩ := loop_rel (step := step) f I xs (k + 1) env1 hI1 fun k env x hx => h k env x (List.mem_cons_of_mem _ hx)
    refine ⟨env2, ?_, by rw [List.length_cons, Nat.add_comm xs.length, ← Nat.add_assoc]; exact hI2⟩
    simp only [List.map_cons, loopF, e, e2]
theorem powOk_of {i j : Int} (hj : 0 ≤ j) (h : (PySem.Builtin.Int.intBits i : Int) * j ≤ 2 ^ 27) : powOk i j = true := by
  unfold powOk
  rw [Bool.and_eq_true, chk_iff, decide_eq_true_eq]
  exact ⟨hj, h⟩
@[simp] theorem eq_bb (a b : Bool) : eqD (.bl a) (.bl b) = some (a == b) := by
  simp [eqD, plainD, within, toPy, PyData.eqv]
mutual
theorem share_share : ∀ d : D, share (share d) = share d
  | .tup xs => by simp only [share]; rw [shareL_share xs]
  | .lst _ xs => by simp only [share]; rw [shareL_share xs]
  | .hole => rfl | .non => rfl | .bl _ => rfl | .int _ => rfl | .str _ => rfl | .scr _ => rfl
theorem shareL_share : ∀ ds : List D, share.shareL (share.shareL ds) = share.shareL ds
  | [] => rfl
  | d :: ds => by simp only [share.shareL]; rw [share_share d, shareL_share ds]
end
mutual
theorem noOwn_share : ∀ d : D, noOwn (share d) = true
  | .tup xs => by simp only [share, noOwn]; exact noOwnL_share xs
  | .lst _ xs => by simp only [share, noOwn, Bool.not_false, Bool.true_and]; exact noOwnL_share xs
  | .hole => rfl | .non => rfl | .bl _ => rfl | .int _ => rfl | .str _ => rfl | .scr _ => rfl
theorem noOwnL_share : ∀ ds : List D, noOwn.noOwnL (share.shareL ds) = true
  | [] => rfl
  | d :: ds => by simp only [share.shareL, noOwn.noOwnL, Bool.and_eq_true]; exact ⟨noOwn_share d, noOwnL_share ds⟩
end
mutual
theorem plain_share : ∀ d : D, plainD (share d) = plainD d
  | .tup xs => by simp only [share, plainD]; exact plainL_share xs
  | .lst _ xs => by simp only [share, plainD]; exact plainL_share xs
  | .hole => rfl | .non => rfl | .bl _ => rfl | .int _ => rfl | .str _ => rfl | .scr _ => rfl
theorem plainL_share : ∀ ds : List D, plainD.plainL (share.shareL ds) = plainD.plainL ds
  | [] => rfl
  | d :: ds => by simp only [share.shareL, plainD.plainL]; rw [plain_share d, plainL_share ds]
end
theorem plainL_all (ds : List D) : plainD.plainL ds = ds.all plainD := by
  induction ds with
  | nil => rfl
  | cons d ds ih => simp [plainD.plainL, ih]
theorem within_share : ∀ (k : Nat) (d : D), within k (share d) = within k d
  | 0, .tup xs => by simp only [share, within]
  | 0, .lst _ xs => by simp only [share, within]
  | k + 1, .tup xs => by
    simp only [share, within, shareL_map, List.all_map]
    congr 1; funext d; exact within_share k d
  | k + 1, .lst _ xs => by
    simp only [share, within, shareL_map, List.all_map]
    congr 1; funext d; exact within_share k d
  | 0, .hole => rfl | 0, .non => rfl | 0, .bl _ => rfl | 0, .int _ => rfl | 0, .str _ => rfl | 0, .scr _ => rfl
  | _ + 1, .hole => rfl | _ + 1, .non => rfl | _ + 1, .bl _ => rfl | _ + 1, .int _ => rfl | _ + 1, .str _ => rfl | _ + 1, .scr _ => rfl
theorem share_elem {ds : List D} (h : share.shareL ds = ds) {d : D} (hd : d ∈ ds) : share d = d := by
  rw [shareL_map] at h
  obtain ⟨i, hi, rfl⟩ := List.getElem_of_mem hd
  have := congrArg (fun l => l[i]?) h
  simp only [List.getElem?_map, List.getElem?_eq_getElem hi, Option.map_some, Option.some.injEq] at this
  exact this
theorem noOwn_of_share {d : D} (h : share d = d) : noOwn d = true := by rw [← h]; exact noOwn_share d
theorem allBools_true (α : Type) (l : List α) : allBools (l.map fun _ => D.bl true) = some (l.map fun _ => true) := by
  induction l with
  | nil => rfl
  | cons a l ih => simp [allBools, ih]
theorem bAll_true {α : Type} (o : Bool) (l : List α) : bAll [.lst o (l.map fun _ => D.bl true)] = some (.bl true) := by
  simp only [bAll, allBools_true, Option.map_some, Option.some.injEq, D.bl.injEq]
  induction l with
  | nil => rfl
  | cons a l ih => simpa using ih
theorem F2_share {xs ys : List D} (h : F2 (fun x y => share y = share x) xs ys) : share.shareL ys = share.shareL xs := by
  induction h with
  | nil => rfl
  | cons h1 _ ih => simp only [share.shareL]; rw [h1, ih]
theorem plain_ne {d : D} (h : plainD d = true) : d ≠ .hole := by rintro rfl; simp [plainD] at h

/-! comprehensions and loops as wholes -/
noncomputable def cStep (Γ : Fns) (ios own : List Nat) (elt : E) (tg : Tg) (c : Option Unit) (cond : E) : List D → D → Option (Option D × List D) := fun env d => (bindT ios tg d env).bind fun env1 => match c with
      | none => (ev Γ ios elt env1).map fun q => (some q.1, wipeD q.2 own)
      | some _ => (ev Γ ios cond env1).bind fun q => match q.1 with
        | .bl true => (ev Γ ios elt q.2).map fun q => (some q.1, wipeD q.2 own)
        | .bl false => some (none, wipeD q.2 own)
        | _ => none
noncomputable def fStep (Γ : Fns) (ios : List Nat) (r : Option (Nat × D)) (tg : Tg) (body : Ss) : List D → D → Option Fl := fun env d => (bindT (putI r ++ ios) tg d env).bind fun env1 => exs Γ (putI r ++ ios) body env1
section
variable {Γ : Fns} {ios own : List Nat} {elt cond : E} {tg : Tg} {it : It} {c : Option Unit} {env env1 : List D} {r : Option (Nat × D)} {body : Ss} {α : Type} {xs : List α}
theorem ev_comp : ev Γ ios (.comp own elt tg it c cond) env = (evI Γ ios it env).bind fun p => (turns (cStep Γ ios own elt tg c cond) p.1 (wipeD p.2.1 own) []).map fun q => (.lst true q.1, putD p.2.2 (backD q.2 p.2.1 own)) := by
  simp only [ev]; rfl
theorem comp_map (f g : α → D) (hit : evI Γ ios it env = some (xs.map f, env1, r)) (h : ∀ x ∈ xs, cStep Γ ios own elt tg c cond (wipeD env1 own) (f x) = some (some (g x), wipeD env1 own)) :
    ev Γ ios (.comp own elt tg it c cond) env = some (.lst true (xs.map g), putD r (backD (wipeD env1 own) env1 own)) := by
  rw [ev_comp, hit, Option.bind_some, turns_map f g xs [] h]; rfl
theorem comp_filt (f : α → D) (g : α → Option D) (hit : evI Γ ios it env = some (xs.map f, env1, r)) (h : ∀ x ∈ xs, cStep Γ ios own elt tg c cond (wipeD env1 own) (f x) = some (g x, wipeD env1 own)) :
    ev Γ ios (.comp own elt tg it c cond) env = some (.lst true (xs.filterMap g), putD r (backD (wipeD env1 own) env1 own)) := by
  rw [ev_comp, hit, Option.bind_some, turns_filt f g xs [] h]; rfl
theorem comp_rel (f : α → D) (I : Nat → List D → Prop) (R : α → D → Prop) (hit : evI Γ ios it env = some (xs.map f, env1, r)) (h0 : I 0 (wipeD env1 own)) (h : ∀ k env x, x ∈ xs → k < xs.length → I k env → ∃ y env', cStep Γ ios own elt tg c cond env (f x) = some (some y, env') ∧ R x y ∧ I (k + 1) env') :
    ∃ ys env2, ev Γ ios (.comp own elt tg it c cond) env = some (.lst true ys, putD r (backD env2 env1 own)) ∧ F2 R xs ys ∧ I xs.length env2 := by
  obtain ⟨ys, env2, e, h1, h2⟩ := turns_rel (step := cStep Γ ios own elt tg c cond) f I R xs 0 _ [] h0 (fun k env x hx hk => h k env x hx (by simpa using hk))
  refine ⟨ys, env2, ?_, h1, by simpa using h2⟩
  rw [ev_comp, hit, Option.bind_some, e]; rfl
theorem ex_for2 {items : List D} {f : Fl} (hit : evI Γ ios it env = some (items, env1, r)) (hl : loopF (fStep Γ ios r tg body) items env1 = some f) : ex Γ ios (.for_ tg it body) env = some (mapF r f) := ex_for hit hl
theorem for_rel (f : α → D) (I : Nat → List D → Prop) (hit : evI Γ ios it env = some (xs.map f, env1, r)) (h0 : I 0 env1) (h : ∀ k env x, xs[k]? = some x → I k env → ∃ env', fStep Γ ios r tg body env (f x) = some (.nx env') ∧ I (k + 1) env') :
    ∃ env2, ex Γ ios (.for_ tg it body) env = some (.nx (putD r env2)) ∧ I xs.length env2 := by
  suffices q : ∀ (l : List α) (k : Nat) (env : List D), I k env → (∀ j x, l[j]? = some x → xs[k + j]? = some x) → ∃ env', loopF (fStep Γ ios r tg body) (l.map f) env = some (.nx env') ∧ I (k + l.length) env' by
    obtain ⟨env2, e, h2⟩ := q xs 0 env1 h0 (by simp)
    exact ⟨env2, (ex_for2 hit e).trans (by rfl), by simpa using h2⟩
  intro l
  induction l with
  | nil => intro k env hI _; exact ⟨env, rfl, hI⟩
  | cons x l ih =>
    intro k env hI hx
    obtain ⟨env', e, hI'⟩ := h k env x (by simpa using hx 0 x rfl) hI
    obtain ⟨env2, e2, h2⟩ := ih (k + 1) env' hI' fun j y hy => by have := hx (j + 1) y (by simpa using hy); rw [← this]; congr 1; omega
    refine ⟨env2, ?_, by rw [List.length_cons, Nat.add_comm l.length, ← Nat.add_assoc]; exact h2⟩
    rw [List.map_cons, loopF, e]; exact e2
theorem while_rel {c : E} (N : Nat) (I : Nat → List D → Prop) (h0 : I 0 env) (hN : N < wfuel) (h : ∀ k env, k < N → I k env → ∃ env1 env', ev Γ ios c env = some (.bl true, env1) ∧ exs Γ ios body env1 = some (.nx env') ∧ I (k + 1) env')
    (he : ∀ env, I N env → ∃ env', ev Γ ios c env = some (.bl false, env') ∧ I N env') : ∃ env', ex Γ ios (.whil c body) env = some (.nx env') ∧ I N env' := by
  suffices q : ∀ (j k fuel : Nat) (env : List D), k + j = N → j < fuel → I k env → ∃ env', loopW (ev Γ ios c) (exs Γ ios body) fuel env = some (.nx env') ∧ I N env' by
    obtain ⟨env', e, h2⟩ := q N 0 wfuel env (by omega) hN h0
    exact ⟨env', by simp only [ex]; exact e, h2⟩
  intro j
  induction j with
  | zero =>
    intro k fuel env hk hf hI
    obtain ⟨fuel, rfl⟩ : ∃ f, fuel = f + 1 := ⟨fuel - 1, by omega⟩
    have : k = N := by omega
    subst this
    obtain ⟨env', e, h2⟩ := he env hI
    exact ⟨env', by simp only [loopW, e], h2⟩
  | succ j ih =>
    intro k fuel env hk hf hI
    obtain ⟨fuel, rfl⟩ : ∃ f, fuel = f + 1 := ⟨fuel - 1, by omega⟩
    obtain ⟨env1, env2, e1, e2, hI2⟩ := h k env (by omega) hI
    obtain ⟨env', e, h2⟩ := ih (k + 1) fuel env2 (by omega) (by omega) hI2
    exact ⟨env', by simp only [loopW, e1, e2]; exact e, h2⟩
end
@[simp] theorem allInts_map' {α : Type} (h : α → Int) (l : List α) : allInts (l.map fun i => D.int (h i)) = some (l.map h) := by
  have := allInts_map (l.map h)
  rw [List.map_map] at this
  exact this
theorem map_int' {α : Type} (h : α → Int) (l : List α) : (l.map fun i => D.int (h i)) = (l.map h).map D.int := by
  rw [List.map_map]; rfl
/-- a def by its body -/
theorem runF_of {Γ : Fns} {np nl : Nat} {ios : List Nat} {body : Ss} {args env : List D} {fl : Fl} (hl : args.length = np) (he : shP ios 0 args ++ List.replicate (nl - np) .hole = env) (h : exs Γ ios body env = some fl) :
    runF Γ ⟨np, nl, ios, body⟩ args = match fl with | .rt d env => some (d, outsOf ios np env) | .nx env => some (.non, outsOf ios np env) | _ => none := by
  subst he
  simp only [runF, hl, if_true, h]
  cases fl <;> rfl
theorem F2.len {α β : Type} {R : α → β → Prop} {l : List α} {m : List β} (h : F2 R l m) : m.length = l.length := by
  induction h with
  | nil => rfl
  | cons _ _ ih => simp [ih]
theorem F2.imp {α β : Type} {R S : α → β → Prop} {l : List α} {m : List β} (h : F2 R l m) (i : ∀ a b, R a b → S a b) : F2 S l m := by
  induction h with
  | nil => exact .nil
  | cons h1 _ ih => exact .cons (i _ _ h1) ih
theorem F2.get {α β : Type} {R : α → β → Prop} {l : List α} {m : List β} (h : F2 R l m) : ∀ {k : Nat} {b : β}, m[k]? = some b → ∃ a, l[k]? = some a ∧ R a b := by
  induction h with
  | nil => intro k b e; simp at e
  | cons h1 _ ih =>
    intro k b e
    cases k with
    | zero => simp only [List.getElem?_cons_zero, Option.some.injEq] at e; subst e; exact ⟨_, rfl, h1⟩
    | succ k => exact ih (by simpa using e)
theorem F2.map_eq {α β : Type} {f : α → β} {l : List α} {m : List β} (h : F2 (fun x y => y = f x) l m) : m = l.map f := by
  induction h with
  | nil => rfl
  | cons h _ ih => rw [h, ih, List.map_cons]
theorem F2.eqL {α : Type} {l m : List α} (h : F2 (fun x y => x = y) l m) : m = l := by
  induction h with
  | nil => rfl
  | cons h _ ih => rw [h, ih]
/-- witnesses put together -/
theorem F2.split {α β γ : Type} {R : α → γ → Prop} {f : γ → β} {l : List α} {m : List β} (h : F2 (fun a b => ∃ c, b = f c ∧ R a c) l m) : ∃ cs, m = cs.map f ∧ F2 R l cs := by
  induction h with
  | nil => exact ⟨[], rfl, .nil⟩
  | cons h1 _ ih =>
    obtain ⟨c, rfl, r⟩ := h1
    obtain ⟨cs, rfl, r2⟩ := ih
    exact ⟨c :: cs, rfl, .cons r r2⟩
theorem F2.splitS {α γ : Type} {R : α → γ → Prop} {f : γ → D} {l : List α} {m : List D} (h : F2 (fun a b => ∃ c, share b = f c ∧ R a c) l m) : ∃ cs, share.shareL m = cs.map f ∧ F2 R l cs := by
  induction h with
  | nil => exact ⟨[], rfl, .nil⟩
  | cons h1 _ ih =>
    obtain ⟨c, e, r⟩ := h1
    obtain ⟨cs, e2, r2⟩ := ih
    exact ⟨c :: cs, by simp only [share.shareL, e, e2, List.map_cons], .cons r r2⟩
end OE

/-! OeN: plain laws of the evaluator, third part; ballots. -/
namespace OE
open PySem PySem.Spec PyProof.Rows L2
theorem eq_ints_nil (o o' : Bool) (ns : List Int) : eqD (.lst o (ns.map D.int)) (.lst o' []) = some ns.isEmpty := by
  have h : ∀ l : List Int, plainD.plainL (l.map D.int) = true := fun l => by rw [plainL_all, List.all_map]; simp [plainD]
  cases ns with
  | nil => simp
  | cons a l =>
    have e : PyData.eqvAll (toPy.toPyL ((a :: l).map D.int)) [] = false := by unfold PyData.eqvAll; rfl
    have h1 : plainD (.lst o ((a :: l).map D.int)) = true := h (a :: l)
    have h2 : plainD (.lst o' []) = true := rfl
    have h3 : within 60 (.lst o' []) = true := rfl
    rw [eqD, h1, h2, h3, Bool.or_true, if_pos (by decide)]
    simp only [toPy, PyData.eqv]
    have e0 : toPy.toPyL [] = [] := rfl
    rw [e0, e]; rfl
theorem catAll_map {α : Type} (f : α → List D) (o : α → Bool) (l : List α) : catAll (l.map fun x => D.lst (o x) (f x)) = some (l.map f).flatten := by
  induction l with
  | nil => rfl
  | cons a l ih => simp [catAll, ih]
@[simp] theorem ixN_nat {k n : Nat} (h : k < n) : L2.ixN n (k : Int) = some k := by
  unfold L2.ixN
  rw [if_pos (Int.natCast_nonneg k), if_pos (by omega)]; simp
theorem eraseIdx_map {α β : Type} (f : α → β) (l : List α) (k : Nat) : (l.map f).eraseIdx k = (l.eraseIdx k).map f := by
  induction l generalizing k with
  | nil => rfl
  | cons a l ih => cases k <;> simp [ih]
theorem perm_erase {α : Type} : ∀ (l : List α) (k : Nat) (h : k < l.length), (l[k] :: l.eraseIdx k).Perm l
  | a :: l, 0, h => by simp
  | a :: l, k + 1, h => by
    simp only [List.getElem_cons_succ, List.eraseIdx_cons_succ]
    exact (List.Perm.swap _ _ _).trans (.cons _ (perm_erase l k (by simpa using h)))
theorem le_lim {n : Nat} (h : n ≤ 1000000) : n ≤ lim := by
  show n ≤ sizeLine
  rw [sizeLine_eq]; omega
/-- the ballots -/
def oneMore (rows : List (List Nat)) (s : Nat) : List (List Nat) := rows.flatMap fun r => (List.range s).map fun c => r ++ [c]
def ballots (sizes : List Nat) : List (List Nat) := sizes.foldl oneMore [[]]
theorem lt_lim {n : Nat} (h : n < 1000000) : n < lim := by
  show n < sizeLine
  rw [sizeLine_eq]; omega
@[simp] theorem share_LTN (o : Bool) (rows : List (List Nat)) : share (.lst o (rows.map TN)) = .lst false (rows.map TN) := by
  show D.lst false (share.shareL _) = _
  rw [shareL_map, List.map_map]
  exact congrArg _ (List.map_congr_left fun t _ => share_TN t)
theorem oneMore_len (rows : List (List Nat)) (s : Nat) : (oneMore rows s).length = rows.length * s := by
  induction rows with
  | nil => simp [oneMore]
  | cons a l ih =>
    simp only [oneMore, List.flatMap_cons, List.length_append, List.length_map, List.length_range, List.length_cons] at ih ⊢
    rw [ih, Nat.add_mul, Nat.one_mul, Nat.add_comm]
theorem foldl_mono {sizes : List Nat} (h : ∀ s ∈ sizes, 1 ≤ s) : ∀ rows : List (List Nat), rows.length ≤ (sizes.foldl oneMore rows).length := by
  induction sizes with
  | nil => intro rows; exact Nat.le_refl _
  | cons s l ih =>
    intro rows
    simp only [List.foldl_cons]
    refine Nat.le_trans ?_ (ih (fun x hx => h x (List.mem_cons_of_mem _ hx)) _)
    rw [oneMore_len]
    exact Nat.le_mul_of_pos_right _ (h s List.mem_cons_self)
theorem oneMore_row {rows : List (List Nat)} {s m : Nat} (h : ∀ r ∈ rows, r.length ≤ m) : ∀ r ∈ oneMore rows s, r.length ≤ m + 1 := by
  intro r hr
  simp only [oneMore, List.mem_flatMap, List.mem_map] at hr
  obtain ⟨r0, h0, c, _, rfl⟩ := hr
  have := h r0 h0
  simp; omega
theorem loopF_find {α : Type} {step : List D → D → Option Fl} (f : α → D) (E : D → List D) (p : α → Bool) : ∀ (xs : List α), (∀ x, ∀ a ∈ xs, step (E x) (f a) = if p a = true then some (.rt (f a) (E .hole)) else some (.nx (E (f a)))) →
    ∀ x, ∃ y, loopF step (xs.map f) (E x) = some (match xs.find? p with | some a => .rt (f a) (E .hole) | none => .nx (E y))
  | [], h, x => ⟨x, rfl⟩
  | a :: xs, h, x => by
    have h1 := h x a List.mem_cons_self
    by_cases hp : p a = true
    · rw [if_pos hp] at h1
      exact ⟨x, by simp only [List.map_cons, loopF, h1, List.find?_cons, hp]⟩
    · rw [if_neg hp] at h1
      obtain ⟨y, hy⟩ := loopF_find f E p xs (fun x b hb => h x b (List.mem_cons_of_mem _ hb)) (f a)
      exact ⟨y, by simp only [List.map_cons, loopF, h1, List.find?_cons, hp]; exact hy⟩
theorem mem_ballots {sizes : List Nat} : ∀ {rows : List (List Nat)} {b : List Nat}, b ∈ sizes.foldl oneMore rows → ∃ r ∈ rows, ∃ t, b = r ++ t ∧ t.length = sizes.length ∧ ∀ (i c s : Nat), t[i]? = some c → sizes[i]? = some s → c < s := by
  induction sizes with
  | nil => intro rows b h; exact ⟨b, h, [], by simp, rfl, fun i c s h => by simp at h⟩
  | cons s l ih =>
    intro rows b h
    simp only [List.foldl_cons] at h
    obtain ⟨r, hr, t, rfl, ht, hc⟩ := ih h
    simp only [oneMore, List.mem_flatMap, List.mem_map, List.mem_range] at hr
    obtain ⟨r0, h0, c, hcs, rfl⟩ := hr
    refine ⟨r0, h0, c :: t, by simp, by simp [ht], fun i c' s' e1 e2 => ?_⟩
    cases i with
    | zero =>
      simp only [List.getElem?_cons_zero, Option.some.injEq] at e1 e2
      subst e1 e2; exact hcs
    | succ i => exact hc i c' s' (by simpa using e1) (by simpa using e2)
theorem loopF_app {α : Type} {step : List D → D → Option Fl} (f : α → D) (E : List D → D → D → List D) (g : α → D) (k : α → D × D) : ∀ (xs : List α), (∀ acc x y, ∀ a ∈ xs, acc.length < 1000000 → step (E acc x y) (f a) = some (.nx (E (acc ++ [g a]) (k a).1 (k a).2))) →
    ∀ acc x y, acc.length + xs.length ≤ 1000000 → ∃ x' y', loopF step (xs.map f) (E acc x y) = some (.nx (E (acc ++ xs.map g) x' y'))
  | [], h, acc, x, y, _ => ⟨x, y, by simp [loopF]⟩
  | a :: xs, h, acc, x, y, hl => by
    simp only [List.length_cons] at hl
    obtain ⟨x', y', e⟩ := loopF_app f E g k xs (fun acc x y b hb => h acc x y b (List.mem_cons_of_mem _ hb)) (acc ++ [g a]) (k a).1 (k a).2 (by simp; omega)
    refine ⟨x', y', ?_⟩
    simp only [List.map_cons, loopF, h acc x y a List.mem_cons_self (by omega)]
    rw [e]; simp
theorem ballots_snoc (sizes : List Nat) (s : Nat) : (ballots (sizes ++ [s])).length = (ballots sizes).length * s := by
  rw [ballots, List.foldl_append, List.foldl_cons, List.foldl_nil, oneMore_len]; rfl
/-- fit for == and for the law's own test -/
def okD (k : Nat) (d : D) : Prop := plainD d = true ∧ within k d = true
theorem okD.lst {k : Nat} {o : Bool} {xs : List D} (h : ∀ x ∈ xs, okD k x) : okD (k + 1) (.lst o xs) := by
  refine ⟨?_, ?_⟩
  · show plainD.plainL _ = true
    rw [plainL_all, List.all_eq_true]; exact fun x hx => (h x hx).1
  · simp only [within, List.all_eq_true]; exact fun x hx => (h x hx).2
theorem okD.tup {k : Nat} {xs : List D} (h : ∀ x ∈ xs, okD k x) : okD (k + 1) (.tup xs) := by
  refine ⟨?_, ?_⟩
  · show plainD.plainL _ = true
    rw [plainL_all, List.all_eq_true]; exact fun x hx => (h x hx).1
  · simp only [within, List.all_eq_true]; exact fun x hx => (h x hx).2
theorem okD.a0 {k : Nat} : ∀ x ∈ ([] : List D), okD k x := by simp
theorem okD.a1 {k : Nat} {a : D} {l : List D} (h : okD k a) (h2 : ∀ x ∈ l, okD k x) : ∀ x ∈ a :: l, okD k x := by
  intro x hx
  rcases List.mem_cons.mp hx with rfl | hx
  · exact h
  · exact h2 x hx
theorem okD.int (k : Nat) (i : Int) : okD k (.int i) := ⟨rfl, by cases k <;> rfl⟩
theorem okD.bl (k : Nat) (i : Bool) : okD k (.bl i) := ⟨rfl, by cases k <;> rfl⟩
theorem okD.non (k : Nat) : okD k .non := ⟨rfl, by cases k <;> rfl⟩
theorem okD.ints (k : Nat) (o : Bool) (ns : List Int) : okD (k + 1) (.lst o (ns.map D.int)) := okD.lst fun x hx => by
  obtain ⟨i, _, rfl⟩ := List.mem_map.mp hx; exact .int k i
theorem okD.TN (k : Nat) (b : List Nat) : okD (k + 1) (TN b) := okD.tup fun x hx => by
  obtain ⟨i, _, rfl⟩ := List.mem_map.mp hx; exact .int k i
theorem okD.of {k : Nat} {a b : D} (h : okD k b) (e : share a = share b) : okD k a := by
  refine ⟨?_, ?_⟩
  · rw [← plain_share, e, plain_share]; exact h.1
  · rw [← within_share, e, within_share]; exact h.2
end OE

/-! OeS: the text that repr gives of trees of numbers. -/
namespace OE
open PySem PySem.Spec PyProof.Rows L2
mutual
/-- numbers below 1000, None, truth, lists and tuples of such -/
def simpD : D → Bool
  | .non => true
  | .bl _ => true
  | .int i => decide (i.natAbs < 1000)
  | .tup xs => simpL xs
  | .lst _ xs => simpL xs
  | _ => false
def simpL : List D → Bool
  | [] => true
  | d :: ds => simpD d && simpL ds
end
theorem ok_app (a b : Str) : PyData.strOk (a ++ b) = (PyData.strOk a && PyData.strOk b) := by
  show (a.cps ++ b.cps).all _ = _
  rw [Array.all_append]; rfl
theorem ok_of (s : String) : PyData.strOk (Str.ofString s) = true := by
  rw [Str.ofString_eq_toList]
  unfold PyData.strOk
  rw [List.all_toArray, List.all_map, List.all_eq_true]
  intro c _
  have : c.val.toNat < 1114112 := by
    rcases c.valid with h | h
    · have : c.val.toNat < 55296 := h
      omega
    · exact h.2
  exact decide_eq_true this
theorem ok_text : ∀ (ts : List Str) (k : Nat) (acc : Str), PyData.strOk acc = true → (∀ t ∈ ts, PyData.strOk t = true) → PyData.strOk (textFrom k acc ts) = true
  | [], k, acc, h, _ => h
  | t :: ts, k, acc, h, h2 => by
    refine ok_text ts (k + 1) _ ?_ fun x hx => h2 x (List.mem_cons_of_mem _ hx)
    rw [ok_app, ok_app, h, h2 t List.mem_cons_self]
    split <;> simp [ok_of]
theorem ok_join : ∀ (ts : List Str), (∀ t ∈ ts, PyData.strOk t = true) → PyData.strOk (Str.join (", " : String) ts) = true
  | [], _ => by
    show PyData.strOk Str.empty = true
    unfold PyData.strOk Str.empty
    simp
  | [x], h => h x List.mem_cons_self
  | x :: y :: r, h => by
    show PyData.strOk (x ++ _ ++ Str.join _ (y :: r)) = true
    rw [ok_app, ok_app, h x List.mem_cons_self, ok_join (y :: r) fun t ht => h t (List.mem_cons_of_mem _ ht)]
    simp [ok_of]
mutual
theorem ok_shown : ∀ (d : D), simpD d = true → PyData.strOk (toPy d).shown = true
  | .hole, h => by simp [simpD] at h
  | .scr _, h => by simp [simpD] at h
  | .str _, h => by simp [simpD] at h
  | .non, _ => ok_of "None"
  | .bl b, _ => by
    cases b
    · exact ok_of "False"
    · exact ok_of "True"
  | .int i, _ => ok_of (toString i)
  | .tup xs, h => by
    have ih := ok_shownL xs (by simpa only [simpD] using h)
    show PyData.strOk (tupleText (PyData.shownAll (toPy.toPyL xs))) = true
    unfold tupleText
    rw [ok_app, ok_app, ok_join _ ih]
    simp [ok_of]
  | .lst _ xs, h => by
    have ih := ok_shownL xs (by simpa only [simpD] using h)
    show PyData.strOk (listText (PyData.shownAll (toPy.toPyL xs))) = true
    unfold listText
    rw [ok_app, ok_text _ _ _ (ok_of _) ih]
    simp [ok_of]
theorem ok_shownL : ∀ (ds : List D), simpL ds = true → ∀ t ∈ PyData.shownAll (toPy.toPyL ds), PyData.strOk t = true
  | [], _ => by intro t ht; cases ht
  | d :: ds, h => by
    simp only [simpL, Bool.and_eq_true] at h
    intro t ht
    simp only [toPy.toPyL, PyData.shownAll, List.mem_cons] at ht
    rcases ht with rfl | ht
    · exact ok_shown d h.1
    · exact ok_shownL ds h.2 t ht
end
mutual
theorem simp_leaves : ∀ (d : D), simpD d = true → (toPy d).leavesShort 13 = true ∧ (toPy d).showable = true
  | .hole, h => by simp [simpD] at h
  | .scr _, h => by simp [simpD] at h
  | .str _, h => by simp [simpD] at h
  | .non, _ => ⟨rfl, rfl⟩
  | .bl b, _ => ⟨by simp [toPy, PyData.leavesShort], rfl⟩
  | .int i, h => by
    have h1 : i.natAbs < 1000 := by simpa [simpD] using h
    have h2 := PyData.shown_int_le (i := i) (by omega)
    refine ⟨?_, ?_⟩
    · simpa only [toPy, PyData.leavesShort, decide_eq_true_eq] using h2
    · simp only [toPy, PyData.showable, decide_eq_true_eq]
      by_cases h0 : i.natAbs = 0
      · rw [h0]; decide
      · have : i.natAbs.log2 < 10 := (Nat.log2_lt h0).mpr (by omega)
        omega
  | .tup xs, h => by
    have ih := simp_leavesL xs (by simpa only [simpD] using h)
    simpa only [toPy, PyData.leavesShort, PyData.showable] using ih
  | .lst _ xs, h => by
    have ih := simp_leavesL xs (by simpa only [simpD] using h)
    simpa only [toPy, PyData.leavesShort, PyData.showable] using ih
theorem simp_leavesL : ∀ (ds : List D), simpL ds = true → PyData.leavesShortAll 13 (toPy.toPyL ds) = true ∧ PyData.showableAll (toPy.toPyL ds) = true
  | [], _ => ⟨rfl, rfl⟩
  | d :: ds, h => by
    simp only [simpL, Bool.and_eq_true] at h
    obtain ⟨a1, a2⟩ := simp_leaves d h.1
    obtain ⟨b1, b2⟩ := simp_leavesL ds h.2
    simp only [toPy.toPyL, PyData.leavesShortAll, PyData.showableAll, Bool.and_eq_true]
    exact ⟨⟨a1, b1⟩, a2, b2⟩
end
mutual
/-- how many numbers and lists stand in a tree -/
def wt : D → Nat
  | .tup xs => wtL xs
  | .lst _ xs => wtL xs
  | _ => 10
def wtL : List D → Nat
  | [] => 0
  | d :: ds => wt d + 1 + wtL ds
end
mutual
theorem wt_le : ∀ (d : D), simpD d = true → (toPy d).weight ≤ wt d
  | .hole, h => by simp [simpD] at h
  | .scr _, h => by simp [simpD] at h
  | .str _, h => by simp [simpD] at h
  | .non, _ => by simp [toPy, PyData.weight, wt]
  | .bl b, _ => by simp [toPy, PyData.weight, wt]
  | .int i, h => by
    have h1 : i.natAbs < 1000 := by simpa [simpD] using h
    simp only [toPy, PyData.weight, wt]
    split
    · omega
    · rename_i h2
      have h0 : i.natAbs ≠ 0 := by simpa using h2
      have : i.natAbs.log2 < 10 := (Nat.log2_lt h0).mpr (by omega)
      omega
  | .tup xs, h => by
    have ih := wt_leL xs (by simpa only [simpD] using h)
    simpa only [toPy, PyData.weight, wt] using ih
  | .lst _ xs, h => by
    have ih := wt_leL xs (by simpa only [simpD] using h)
    simpa only [toPy, PyData.weight, wt] using ih
theorem wt_leL : ∀ (ds : List D), simpL ds = true → PyData.weightAll (toPy.toPyL ds) ≤ wtL ds
  | [], _ => by simp [toPy.toPyL, PyData.weightAll, wtL]
  | d :: ds, h => by
    simp only [simpL, Bool.and_eq_true] at h
    have a := wt_le d h.1
    have b := wt_leL ds h.2
    simp only [toPy.toPyL, PyData.weightAll, wtL]
    omega
end
theorem simp_plain : ∀ (d : D), simpD d = true → plainD d = true
  | .hole, h => by simp [simpD] at h
  | .scr _, h => by simp [simpD] at h
  | .str _, h => by simp [simpD] at h
  | .non, _ => rfl
  | .bl b, _ => rfl
  | .int i, _ => rfl
  | .tup xs, h => by simp only [plainD]; exact simp_plainL xs (by simpa only [simpD] using h)
  | .lst _ xs, h => by simp only [plainD]; exact simp_plainL xs (by simpa only [simpD] using h)
where simp_plainL : ∀ (ds : List D), simpL ds = true → plainD.plainL ds = true
  | [], _ => rfl
  | d :: ds, h => by
    simp only [simpL, Bool.and_eq_true] at h
    simp only [plainD.plainL, Bool.and_eq_true]
    exact ⟨simp_plain d h.1, simp_plainL ds h.2⟩
/-- repr of a tree of numbers, and that it equals itself -/
theorem repr_ok {d : D} (h : simpD d = true) (hs : isSeqD d = true) (hw : within 60 d = true) (hwt : wt d ≤ 1000000) : ∃ s, repD d = some (.str s) ∧ eqD (.str s) (.str s) = some true := by
  obtain ⟨a1, a2⟩ := simp_leaves d h
  have hl := PyData.shown_fits (B := 13) (by decide) (by decide) a1 (Nat.le_trans (wt_le d h) (by omega))
  refine ⟨(toPy d).shown, ?_, ?_⟩
  · unfold repD
    rw [if_pos]
    rw [Bool.and_eq_true, Bool.and_eq_true, Bool.and_eq_true, Bool.and_eq_true, chk_iff, chk_iff]
    exact ⟨⟨⟨⟨simp_plain d h, hw⟩, hs⟩, a2⟩, hl⟩
  · have ho := ok_shown d h
    have e : PyData.eqv (.str (toPy d).shown) (.str (toPy d).shown) = true := by simp [PyData.eqv]
    simp [eqD, plainD, ho, within, toPy, e]
theorem simpL_all (ds : List D) : simpL ds = ds.all simpD := by
  induction ds with
  | nil => rfl
  | cons d ds ih => simp [simpL, ih]
theorem wtL_le {ds : List D} {B : Nat} (h : ∀ d ∈ ds, wt d ≤ B) : wtL ds ≤ (B + 1) * ds.length := by
  induction ds with
  | nil => simp [wtL]
  | cons d ds ih =>
    have h1 := h d List.mem_cons_self
    have h2 := ih fun x hx => h x (List.mem_cons_of_mem _ hx)
    simp only [wtL, List.length_cons, Nat.mul_succ]
    omega
end OE

namespace K81
open OE PySem PySem.Spec PyProof.Rows L2
/-- 0: is_whole -/
def F.is_whole : Fd := ⟨1, 1, [],
    (.cons (.ret (.and (.cons (.isI (.sh 0) [.int]) (.cons (.not (.isI (.sh 0) [.bool])) .nil))))
    .nil)⟩
/-- 1: is_count -/
def F.is_count : Fd := ⟨1, 1, [],
    (.cons (.ret (.and (.cons (.call 0 (.ex (.sh 0) .nil)) (.cons (.cmp .ge (.sh 0) (.int 0)) .nil))))
    .nil)⟩
def F.is_rule_of.c1 : E := (.comp [2] (.sh 2) (.nm 2) (.e (.sh 1)) (some ()) (.or (.cons (.not (.call 1 (.ex (.sh 2) .nil))) (.cons (.cmp .ge (.sh 2) (.pk 0 [.n 1])) .nil))))
/-- 2: is_rule_of -/
def F.is_rule_of : Fd := ⟨2, 3, [],
    (.cons (.ite (.or (.cons (.not (.isI (.sh 1) [.list])) (.cons (.cmp .ne (.len 1 []) (.call 3 (.ex (.sh 0) .nil))) .nil)))
    (.cons (.ret (.bl false))
    .nil)
    .nil)
    (.cons (.ret (.cmp .eq F.is_rule_of.c1 (.lst .nil)))
    .nil))⟩
def F.count_of.b1 : Ss := (.cons (.asg 1 (.bin .mul (.sh 1) (.sh 2)))
    .nil)
def F.count_of.l1 : S := (.for_ (.nm 2) (.e (.pk 0 [.n 0]))
    F.count_of.b1)
/-- 3: count_of -/
def F.count_of : Fd := ⟨1, 3, [],
    (.cons (.asg 1 (.int 1))
    (.cons F.count_of.l1
    (.cons (.ret (.mv 1))
    .nil)))⟩
def F.listed_ballots.c1 : E := (.comp2 [3, 4] [4] (.bin .add (.sh 3) (.tup (.cons (.sh 4) .nil))) (.nm 3) (.e (.sh 1)) (.nm 4) (.rng1 (.sh 2)))
def F.listed_ballots.b1 : Ss := (.cons (.asg 1 F.listed_ballots.c1)
    .nil)
def F.listed_ballots.l1 : S := (.for_ (.nm 2) (.e (.sh 0))
    F.listed_ballots.b1)
/-- 4: listed_ballots -/
def F.listed_ballots : Fd := ⟨1, 5, [],
    (.cons (.asg 1 (.lst (.cons (.tup .nil) .nil)))
    (.cons F.listed_ballots.l1
    (.cons (.ret (.mv 1))
    .nil)))⟩
def F.number_in.b1 : Ss := (.cons (.asg 2 (.bin .add (.bin .mul (.sh 2) (.sh 4)) (.pk 1 [.v 3])))
    .nil)
def F.number_in.l1 : S := (.for_ (.tp [3, 4]) (.enum (.sh 0))
    F.number_in.b1)
/-- 5: number_in -/
def F.number_in : Fd := ⟨2, 5, [],
    (.cons (.asg 2 (.int 0))
    (.cons F.number_in.l1
    (.cons (.ret (.mv 2))
    .nil)))⟩
def F.heights_of.b1 : Ss := (.cons (.asg 5 (.bin .add (.sh 5) (.blt .int (.cons (.cmp .ge (.pk 2 [.v 6]) (.sh 4)) .nil))))
    (.cons (.app 3 [] (.sh 5))
    .nil))
def F.heights_of.l1 : S := (.for_ (.nm 6) (.e (.sh 1))
    F.heights_of.b1)
def F.heights_of.b2 : Ss := (.cons (.asg 5 (.int 0))
    (.cons F.heights_of.l1
    .nil))
def F.heights_of.l2 : S := (.for_ (.nm 4) (.rng2 (.int 1) (.pk 0 [.n 0, .n 0]))
    F.heights_of.b2)
/-- 6: heights_of -/
def F.heights_of : Fd := ⟨3, 7, [],
    (.cons (.ite (.cmp .isN (.sh 1) .non)
    (.cons (.ret (.sh 2))
    .nil)
    .nil)
    (.cons (.asg 3 (.lst .nil))
    (.cons F.heights_of.l2
    (.cons (.ret (.blt .tuple (.cons (.mv 3) .nil)))
    .nil))))⟩
def F.none_greater.c1 : E := (.comp [2, 3] (.sh 2) (.tp [2, 3]) (.enum (.sh 0)) (some ()) (.cmp .gt (.sh 3) (.pk 1 [.v 2])))
/-- 7: none_greater -/
def F.none_greater : Fd := ⟨2, 4, [],
    (.cons (.ret (.cmp .eq F.none_greater.c1 (.lst .nil)))
    .nil)⟩
def F.rises_by_steps.b1 : Ss := (.cons (.ite (.and (.cons (.cmp .lt (.bin .mod (.bin .fdiv (.sh 4) (.sh 2)) (.sh 3)) (.bin .sub (.sh 3) (.int 1))) (.cons (.cmp .gt (.sh 5) (.sub (.sh 1) (.bin .add (.sh 4) (.sh 2)))) .nil)))
    (.cons (.ret (.bl false))
    .nil)
    .nil)
    .nil)
def F.rises_by_steps.l1 : S := (.for_ (.tp [4, 5]) (.enum (.sh 1))
    F.rises_by_steps.b1)
def F.rises_by_steps.b2 : Ss := (.cons (.asg 2 (.bin .fdiv (.sh 2) (.sh 3)))
    (.cons F.rises_by_steps.l1
    .nil))
def F.rises_by_steps.l2 : S := (.for_ (.nm 3) (.e (.pk 0 [.n 0]))
    F.rises_by_steps.b2)
/-- 8: rises_by_steps -/
def F.rises_by_steps : Fd := ⟨2, 6, [],
    (.cons (.asg 2 (.len 1 []))
    (.cons F.rises_by_steps.l2
    (.cons (.ret (.bl true))
    .nil)))⟩
def F.fall_of.c1 : E := (.comp [5] (.call 6 (.ex (.sh 0) (.ex (.sh 1) (.ex (.sh 5) .nil)))) (.nm 5) (.e (.sh 3)) none .non)
def F.fall_of.b1 : Ss := (.cons (.ite (.and (.cons (.cmp .gt (.pk 2 [.v 6]) (.pk 2 [.v 8])) (.cons (.call 7 (.ex (.pk 4 [.v 6]) (.ex (.pk 4 [.v 8]) .nil))) .nil)))
    (.cons (.ret (.tup (.cons (.mv 7) (.cons (.mv 9) .nil))))
    .nil)
    .nil)
    .nil)
def F.fall_of.l1 : S := (.for_ (.tp [8, 9]) (.enum (.sh 3))
    F.fall_of.b1)
def F.fall_of.b2 : Ss := (.cons F.fall_of.l1
    .nil)
def F.fall_of.l2 : S := (.for_ (.tp [6, 7]) (.enum (.sh 3))
    F.fall_of.b2)
/-- 9: fall_of -/
def F.fall_of : Fd := ⟨3, 10, [],
    (.cons (.ite (.and (.cons (.cmp .isN (.sh 1) .non) (.cons (.call 8 (.ex (.sh 0) (.ex (.sh 2) .nil))) .nil)))
    (.cons (.ret .non)
    .nil)
    .nil)
    (.cons (.asg 3 (.call 4 (.ex (.pk 0 [.n 0]) .nil)))
    (.cons (.asg 4 F.fall_of.c1)
    (.cons F.fall_of.l2
    (.cons (.ret .non)
    .nil)))))⟩
/-- 10: first_fall_of -/
def F.first_fall_of : Fd := ⟨2, 2, [],
    (.cons (.ret (.call 9 (.ex (.sh 0) (.ex .non (.ex (.sh 1) .nil)))))
    .nil)⟩
def F.is_ascending.c1 : E := (.comp [2] (.sh 2) (.nm 2) (.e (.sh 0)) (some ()) (.or (.cons (.not (.call 1 (.ex (.sh 2) .nil))) (.cons (.cmp .ge (.sh 2) (.sh 1)) .nil))))
def F.is_ascending.c2 : E := (.comp [3] (.sh 3) (.nm 3) (.rng2 (.int 1) (.len 0 [])) (some ()) (.cmp .ge (.pk 0 [.vm 3 1]) (.pk 0 [.v 3])))
/-- 11: is_ascending -/
def F.is_ascending : Fd := ⟨2, 4, [],
    (.cons (.ite (.or (.cons (.not (.isI (.sh 0) [.list])) (.cons (.cmp .ne F.is_ascending.c1 (.lst .nil)) .nil)))
    (.cons (.ret (.bl false))
    .nil)
    .nil)
    (.cons (.ret (.cmp .eq F.is_ascending.c2 (.lst .nil)))
    .nil))⟩
/-- 12: is_company_of -/
def F.is_company_of : Fd := ⟨2, 5, [],
    (.cons (.ite (.or (.cons (.not (.isI (.sh 1) [.tuple])) (.cons (.cmp .ne (.len 1 []) (.int 2)) .nil)))
    (.cons (.ret (.bl false))
    .nil)
    .nil)
    (.cons (.unp [2, 3] (.sh 1))
    (.cons (.ite (.or (.cons (.not (.call 11 (.ex (.sh 2) (.ex (.sh 0) .nil)))) (.cons (.not (.chain .le .le (.int 1) (.len 2 []) (.int 6))) .nil)))
    (.cons (.ret (.bl false))
    .nil)
    .nil)
    (.cons (.asg 4 (.tup (.cons (.bin .mul (.lst (.cons (.int 2) .nil)) (.len 2 [])) (.cons (.int 2) .nil))))
    (.cons (.ret (.and (.cons (.call 2 (.ex (.sh 4) (.ex (.sh 3) .nil))) (.cons (.cmp .isN (.call 10 (.ex (.sh 4) (.ex (.sh 3) .nil))) .non) .nil))))
    .nil)))))⟩
def F.is_holdings.c1 : E := (.comp [2] (.sh 2) (.nm 2) (.e (.pk 0 [.n 1])) (some ()) (.not (.call 12 (.ex (.sh 1) (.ex (.sh 2) .nil)))))
/-- 13: is_holdings -/
def F.is_holdings : Fd := ⟨1, 3, [],
    (.cons (.ite (.or (.cons (.not (.isI (.sh 0) [.tuple])) (.cons (.cmp .ne (.len 0 []) (.int 2)) (.cons (.not (.call 0 (.ex (.pk 0 [.n 0]) .nil))) (.cons (.not (.chain .le .le (.int 1) (.pk 0 [.n 0]) (.int 6))) .nil)))))
    (.cons (.ret (.bl false))
    .nil)
    .nil)
    (.cons (.ite (.or (.cons (.not (.isI (.pk 0 [.n 1]) [.list])) (.cons (.not (.chain .le .le (.int 1) (.len 0 [.n 1]) (.int 8))) .nil)))
    (.cons (.ret (.bl false))
    .nil)
    .nil)
    (.cons (.asg 1 (.bin .add (.pk 0 [.n 0]) (.len 0 [.n 1])))
    (.cons (.ret (.cmp .eq F.is_holdings.c1 (.lst .nil)))
    .nil))))⟩
/-- 14: check_holdings -/
def F.check_holdings : Fd := ⟨1, 1, [],
    (.cons (.ite (.not (.call 13 (.ex (.sh 0) .nil)))
    (.cons .no
    .nil)
    .nil)
    .nil)⟩
/-- 15: check_people -/
def F.check_people : Fd := ⟨2, 2, [],
    (.cons (.ite (.not (.call 11 (.ex (.sh 1) (.ex (.pk 0 [.n 0]) .nil))))
    (.cons .no
    .nil)
    .nil)
    .nil)⟩
/-- 16: check_company -/
def F.check_company : Fd := ⟨2, 2, [],
    (.cons (.ite (.or (.cons (.not (.call 1 (.ex (.sh 1) .nil))) (.cons (.cmp .ge (.sh 1) (.len 0 [.n 1])) .nil)))
    (.cons .no
    .nil)
    .nil)
    .nil)⟩
def F.said_by.c1 : E := (.comp [2] (.ite (.cmp .isIn (.sh 2) (.sh 1)) (.int 1) (.int 0)) (.nm 2) (.rng1 (.pk 0 [.n 0])) none .non)
/-- 17: said_by -/
def F.said_by : Fd := ⟨2, 3, [],
    (.cons (.ret F.said_by.c1)
    .nil)⟩
def F.answers.c1 : E := (.comp [5] (.pk 1 [.v 5]) (.nm 5) (.e (.sh 3)) none .non)
def F.answers.b1 : Ss := (.cons (.app 2 [] (.sub (.sh 4) (.call 5 (.ex (.bin .mul (.lst (.cons (.int 2) .nil)) (.len 3 [])) (.ex F.answers.c1 .nil)))))
    .nil)
def F.answers.l1 : S := (.for_ (.tp [3, 4]) (.e (.pk 0 [.n 1]))
    F.answers.b1)
/-- 18: answers -/
def F.answers : Fd := ⟨2, 6, [],
    (.cons (.asg 2 (.lst .nil))
    (.cons F.answers.l1
    (.cons (.ret (.mv 2))
    .nil)))⟩
def F.settled_from.b1 : Ss := (.cons (.asg 4 (.mv 5))
    (.cons (.asg 5 (.call 18 (.ex (.sh 0) (.ex (.catp 3 [] 4 []) .nil))))
    .nil))
def F.settled_from.l1 : S := (.whil (.eqp 5 [] 4 [] true)
    F.settled_from.b1)
/-- 19: settled_from -/
def F.settled_from : Fd := ⟨3, 6, [],
    (.cons (.asg 3 (.call 17 (.ex (.sh 0) (.ex (.sh 1) .nil))))
    (.cons (.asg 4 (.bin .mul (.lst (.cons (.sh 2) .nil)) (.len 0 [.n 1])))
    (.cons (.asg 5 (.call 18 (.ex (.sh 0) (.ex (.catp 3 [] 4 []) .nil))))
    (.cons F.settled_from.l1
    (.cons (.ret (.mv 4))
    .nil)))))⟩
/-- 20: least_of -/
def F.least_of : Fd := ⟨2, 2, [],
    (.cons (.ret (.call 19 (.ex (.sh 0) (.ex (.sh 1) (.ex (.int 0) .nil)))))
    .nil)⟩
/-- 21: brings -/
def F.brings : Fd := ⟨3, 3, [],
    (.cons (.ex (.call 14 (.ex (.sh 0) .nil)))
    (.cons (.ex (.call 15 (.ex (.sh 0) (.ex (.sh 1) .nil))))
    (.cons (.ex (.call 16 (.ex (.sh 0) (.ex (.sh 2) .nil))))
    (.cons (.ret (.cmp .eq (.sub (.call 20 (.ex (.sh 0) (.ex (.sh 1) .nil))) (.sh 2)) (.int 1)))
    .nil))))⟩
def F.carried_with.c1 : E := (.comp [4] (.ite (.cmp .isIn (.sh 4) (.sh 2)) (.int 1) (.int 0)) (.nm 4) (.rng1 (.len 0 [.n 1])) none .non)
def F.carried_with.c2 : E := (.comp [4, 6] (.sh 4) (.tp [4, 6]) (.enum (.sh 5)) (some ()) (.cmp .eq (.sh 6) (.int 1)))
/-- 22: carried_with -/
def F.carried_with : Fd := ⟨3, 7, [],
    (.cons (.asg 3 F.carried_with.c1)
    (.cons (.asg 5 (.call 18 (.ex (.sh 0) (.ex (.bin .add (.call 17 (.ex (.sh 0) (.ex (.sh 1) .nil))) (.sh 3)) .nil))))
    (.cons (.ret F.carried_with.c2)
    .nil)))⟩
def F.chain_of.c1 : E := (.comp [4] (.sh 4) (.nm 4) (.e (.call 22 (.ex (.sh 0) (.ex (.sh 1) (.bw 2 .nil))))) (some ()) (.inp 4 [] 2 [] true))
def F.chain_of.b1 : Ss := (.cons (.app 2 [] (.pk 3 [.n 0]))
    (.cons (.asg 3 F.chain_of.c1)
    .nil))
def F.chain_of.l1 : S := (.whil (.emp 3 [] true)
    F.chain_of.b1)
/-- 23: chain_of -/
def F.chain_of : Fd := ⟨2, 5, [],
    (.cons (.ex (.call 14 (.ex (.sh 0) .nil)))
    (.cons (.ex (.call 15 (.ex (.sh 0) (.ex (.sh 1) .nil))))
    (.cons (.asg 2 (.lst .nil))
    (.cons (.asg 3 (.call 22 (.ex (.sh 0) (.ex (.sh 1) (.bw 2 .nil)))))
    (.cons F.chain_of.l1
    (.cons (.ret (.mv 2))
    .nil))))))⟩
def F.is_chain.c1 : E := (.comp [3] (.sh 3) (.nm 3) (.e (.sh 2)) (some ()) (.or (.cons (.not (.call 1 (.ex (.sh 3) .nil))) (.cons (.cmp .ge (.sh 3) (.len 0 [.n 1])) .nil))))
def F.is_chain.b1 : Ss := (.cons (.ite (.or (.cons (.cmp .isIn (.sh 4) (.slc (.sh 2) false .non true (.sh 3))) (.cons (.cmp .notIn (.sh 4) (.call 22 (.ex (.sh 0) (.ex (.sh 1) (.ex (.slc (.sh 2) false .non true (.sh 3)) .nil))))) .nil)))
    (.cons (.ret (.bl false))
    .nil)
    .nil)
    .nil)
def F.is_chain.l1 : S := (.for_ (.tp [3, 4]) (.enum (.sh 2))
    F.is_chain.b1)
def F.is_chain.c2 : E := (.comp [4] (.sh 4) (.nm 4) (.e (.call 22 (.ex (.sh 0) (.ex (.sh 1) (.ex (.sh 2) .nil))))) (some ()) (.cmp .notIn (.sh 4) (.sh 2)))
/-- 24: is_chain -/
def F.is_chain : Fd := ⟨3, 5, [],
    (.cons (.ex (.call 14 (.ex (.sh 0) .nil)))
    (.cons (.ex (.call 15 (.ex (.sh 0) (.ex (.sh 1) .nil))))
    (.cons (.ite (.or (.cons (.not (.isI (.sh 2) [.list])) (.cons (.cmp .ne F.is_chain.c1 (.lst .nil)) .nil)))
    (.cons (.ret (.bl false))
    .nil)
    .nil)
    (.cons F.is_chain.l1
    (.cons (.ret (.cmp .eq F.is_chain.c2 (.lst .nil)))
    .nil)))))⟩
/-- 25: _law_hash -/
def F._law_hash : Fd := ⟨2, 3, [],
    (.cons (.asg 2 (.bin .mod (.blt .int (.cons (.bin .add (.bin .add (.bin .add (.bin .mul (.sh 0) (.int 1140671)) (.bin .mul (.bin .mul (.int 27644437) (.sh 1)) (.sh 1))) (.bin .mul (.int 131) (.sh 1))) (.int 19)) .nil)) (.int 2147483629)))
    (.cons (.asg 2 (.bin .mod (.blt .int (.cons (.bin .add (.bin .add (.bin .mul (.sh 2) (.sh 2)) (.bin .mul (.int 62089) (.sh 1))) (.int 32416187)) .nil)) (.int 2147483587)))
    (.cons (.ret (.bin .mod (.blt .int (.cons (.bin .mul (.mv 2) (.int 48271)) .nil)) (.int 2147483647)))
    .nil)))⟩
/-- 26: _law_random -/
def F._law_random : Fd := ⟨2, 4, [0],
    (.cons (.ite (.cmp .gt (.pk 0 [.n 0]) (.int 0))
    (.cons (.asg 2 (.bin .mod (.blt .int (.cons (.pk 0 [.n 0]) .nil)) (.sh 1)))
    (.cons (.seti 0 [] (.int 0) (.bin .fdiv (.pk 0 [.n 0]) (.sh 1)))
    (.cons (.ret (.mv 2))
    .nil)))
    .nil)
    (.cons (.asg 2 (.int 0))
    (.cons (.for_ (.nm 3) (.rng1 (.bin .add (.int 1) (.bin .fdiv (.blt .bits (.cons (.sh 1) .nil)) (.int 30))))
    (.cons (.seti 0 [] (.int 2) (.bin .add (.pk 0 [.n 2]) (.int 1)))
    (.cons (.asg 2 (.bin .add (.bin .mul (.sh 2) (.int 2147483587)) (.call 25 (.ex (.pk 0 [.n 1]) (.ex (.pk 0 [.n 2]) .nil)))))
    .nil)))
    (.cons (.ret (.bin .mod (.blt .int (.cons (.mv 2) .nil)) (.sh 1)))
    .nil))))⟩
/-- 27: _law_cell -/
def F._law_cell : Fd := ⟨2, 2, [],
    (.cons (.ite (.cmp .lt (.sh 1) (.len 0 []))
    (.cons (.ret (.pk 0 [.v 1]))
    .nil)
    .nil)
    (.cons (.ret (.bin .mod (.blt .sum (.cons (.slc (.sh 0) false .non true (.int 1)) .nil)) (.int 1000003)))
    .nil))⟩
/-- 28: _law_generator -/
def F._law_generator : Fd := ⟨2, 3, [],
    (.cons (.asg 2 (.call 27 (.ex (.sh 0) (.ex (.sh 1) .nil))))
    (.cons (.ret (.lst (.cons (.bin .mod (.blt .int (.cons (.blt .max (.cons (.bin .sub (.sh 2) (.bin .pow (.int 10) (.int 18))) (.cons (.int 0) .nil))) .nil)) (.bin .pow (.bin .pow (.int 10) (.int 60)) (.int 10))) (.cons (.bin .mod (.blt .int (.cons (.sh 2) .nil)) (.int 2147483647)) (.cons (.bin .mul (.int 1000) (.sh 1)) .nil)))))
    .nil))⟩
/-- 29: _law_pick -/
def F._law_pick : Fd := ⟨2, 2, [0],
    (.cons (.ret (.sub (.sh 1) (.call 26 (.io 0 (.ex (.len 1 []) .nil)))))
    .nil)⟩
def F._law_drawn_order.b1 : Ss := (.cons (.app 3 [] (.pop 2 (.cons (.call 26 (.io 0 (.ex (.len 2 []) .nil))) .nil)))
    .nil)
def F._law_drawn_order.l1 : S := (.whil (.emp 2 [] true)
    F._law_drawn_order.b1)
/-- 30: _law_drawn_order -/
def F._law_drawn_order : Fd := ⟨2, 4, [0],
    (.cons (.par 2 3 (.blt .list (.cons (.sh 1) .nil)) (.lst .nil))
    (.cons F._law_drawn_order.l1
    (.cons (.ret (.mv 3))
    .nil)))⟩
def F._law_ballots.c1 : E := (.comp [4] (.bin .add (.sh 3) (.tup (.cons (.sh 4) .nil))) (.nm 4) (.rng1 (.sh 2)) none .non)
def F._law_ballots.c2 : E := (.comp [3] F._law_ballots.c1 (.nm 3) (.e (.sh 1)) none .non)
def F._law_ballots.b1 : Ss := (.cons (.asg 1 (.blt .sumL (.cons F._law_ballots.c2 (.cons (.lst .nil) .nil))))
    .nil)
def F._law_ballots.l1 : S := (.for_ (.nm 2) (.e (.sh 0))
    F._law_ballots.b1)
/-- 31: _law_ballots -/
def F._law_ballots : Fd := ⟨1, 5, [],
    (.cons (.asg 1 (.lst (.cons (.tup .nil) .nil)))
    (.cons F._law_ballots.l1
    (.cons (.ret (.mv 1))
    .nil)))⟩
def F._law_same.c1 : E := (.comp [2] (.sh 2) (.nm 2) (.rng1 (.len 1 [])) (some ()) (.not (.call 32 (.ex (.pk 0 [.v 2]) (.ex (.pk 1 [.v 2]) .nil)))))
/-- 32: _law_same -/
def F._law_same : Fd := ⟨2, 3, [],
    (.cons (.ite (.or (.cons (.cmp .isN (.sh 1) .non) (.cons (.cmp .isN (.sh 1) (.bl true)) (.cons (.cmp .isN (.sh 1) (.bl false)) .nil))))
    (.cons (.ret (.ite (.cmp .isN (.sh 1) .non) (.cmp .isN (.sh 0) .non) (.ite (.cmp .isN (.sh 1) (.bl true)) (.cmp .isN (.sh 0) (.bl true)) (.cmp .isN (.sh 0) (.bl false)))))
    .nil)
    .nil)
    (.cons (.ite (.isI (.sh 1) [.list, .tuple])
    (.cons (.ite (.or (.cons (.and (.cons (.not (.isI (.sh 0) [.list])) (.cons (.isI (.sh 1) [.list]) .nil))) (.cons (.and (.cons (.not (.isI (.sh 0) [.tuple])) (.cons (.isI (.sh 1) [.tuple]) .nil))) .nil)))
    (.cons (.ret (.bl false))
    .nil)
    .nil)
    (.cons (.ret (.and (.cons (.cmp .eq (.len 0 []) (.len 1 [])) (.cons (.cmp .eq F._law_same.c1 (.lst .nil)) .nil))))
    .nil))
    .nil)
    (.cons (.ite (.isI (.sh 1) [.int])
    (.cons (.ret (.and (.cons (.isI (.sh 0) [.int]) (.cons (.not (.isI (.sh 0) [.bool])) (.cons (.cmp .eq (.sh 0) (.sh 1)) .nil)))))
    .nil)
    .nil)
    (.cons (.ret (.and (.cons (.isI (.sh 0) [.str]) (.cons (.cmp .eq (.sh 0) (.sh 1)) .nil))))
    .nil))))⟩
def F._law_number_in.b1 : Ss := (.cons (.asg 2 (.bin .add (.bin .mul (.sh 2) (.pk 0 [.v 3])) (.pk 1 [.v 3])))
    .nil)
def F._law_number_in.l1 : S := (.for_ (.nm 3) (.rng1 (.len 0 []))
    F._law_number_in.b1)
/-- 33: _law_number_in -/
def F._law_number_in : Fd := ⟨2, 4, [],
    (.cons (.asg 2 (.int 0))
    (.cons F._law_number_in.l1
    (.cons (.ret (.mv 2))
    .nil)))⟩
def F._law_below.c1 : E := (.comp [2] (.sh 2) (.nm 2) (.rng1 (.len 0 [])) (some ()) (.cmp .gt (.pk 0 [.v 2]) (.pk 1 [.v 2])))
/-- 34: _law_below -/
def F._law_below : Fd := ⟨2, 3, [],
    (.cons (.ret (.cmp .eq F._law_below.c1 (.lst .nil)))
    .nil)⟩
def F._law_weighted.c1 : E := (.comp [3] (.call 26 (.io 0 (.ex (.int 6) .nil))) (.nm 3) (.rng1 (.sh 1)) none .non)
def F._law_weighted.c2 : E := (.comp [3] (.bin .mul (.pk 2 [.v 3]) (.pk 5 [.v 3])) (.nm 3) (.rng1 (.sh 1)) none .non)
def F._law_weighted.c3 : E := (.comp [5] (.blt .int (.cons (.cmp .ge (.blt .sum (.cons F._law_weighted.c2 .nil)) (.sh 4)) .nil)) (.nm 5) (.e (.call 31 (.ex (.bin .mul (.lst (.cons (.int 2) .nil)) (.sh 1)) .nil))) none .non)
/-- 35: _law_weighted -/
def F._law_weighted : Fd := ⟨2, 6, [0],
    (.cons (.asg 2 F._law_weighted.c1)
    (.cons (.asg 4 (.bin .add (.int 1) (.call 26 (.io 0 (.ex (.bin .add (.blt .sum (.cons (.sh 2) .nil)) (.int 2)) .nil)))))
    (.cons (.ret F._law_weighted.c3)
    .nil)))⟩
def F._law_rising.c1 : E := (.comp [5] (.sh 4) (.nm 5) (.e (.sh 2)) none .non)
def F._law_rising.c2 : E := (.comp [7] (.call 29 (.io 0 (.ex (.sh 2) .nil))) (.nm 7) (.rng1 (.bin .add (.int 1) (.call 26 (.io 0 (.ex (.int 4) .nil))))) none .non)
def F._law_rising.c3 : E := (.comp [8] (.sh 8) (.nm 8) (.e (.sh 6)) (some ()) (.call 34 (.ex (.sh 8) (.ex (.sh 5) .nil))))
def F._law_rising.c4 : E := (.comp [5] (.blt .int (.cons (.cmp .ne F._law_rising.c3 (.lst .nil)) .nil)) (.nm 5) (.e (.sh 2)) none .non)
def F._law_rising.c5 : E := (.comp [11] (.ite (.cmp .eq (.sh 3) (.int 7)) (.blt .min (.cons (.pk 9 [.v 11]) (.cons (.pk 10 [.v 11]) .nil))) (.blt .max (.cons (.pk 9 [.v 11]) (.cons (.pk 10 [.v 11]) .nil)))) (.nm 11) (.rng1 (.len 9 [])) none .non)
/-- 36: _law_rising -/
def F._law_rising : Fd := ⟨2, 12, [0],
    (.cons (.unp [2, 3] (.tup (.cons (.call 31 (.ex (.bin .mul (.lst (.cons (.int 2) .nil)) (.sh 1)) .nil)) (.cons (.call 26 (.io 0 (.ex (.int 9) .nil))) .nil))))
    (.cons (.ite (.cmp .eq (.sh 3) (.int 0))
    (.cons (.asg 4 (.call 26 (.io 0 (.ex (.int 2) .nil))))
    (.cons (.ret F._law_rising.c1)
    .nil))
    .nil)
    (.cons (.ite (.cmp .lt (.sh 3) (.int 4))
    (.cons (.ret (.call 35 (.io 0 (.ex (.sh 1) .nil))))
    .nil)
    .nil)
    (.cons (.ite (.cmp .lt (.sh 3) (.int 7))
    (.cons (.asg 6 F._law_rising.c2)
    (.cons (.ret F._law_rising.c4)
    .nil))
    .nil)
    (.cons (.unp [9, 10] (.tup (.cons (.call 35 (.io 0 (.ex (.sh 1) .nil))) (.cons (.call 35 (.io 0 (.ex (.sh 1) .nil))) .nil))))
    (.cons (.ret F._law_rising.c5)
    .nil))))))⟩
def F._law_holdings.c1 : E := (.comp [11] (.sh 11) (.nm 11) (.e (.sh 9)) (some ()) (.or (.cons (.cmp .ge (.sh 11) (.sh 4)) (.cons (.cmp .eq (.sh 11) (.int 0)) .nil))))
def F._law_holdings.b1 : Ss := (.cons (.asg 9 (.lrg1 (.bin .add (.sh 4) (.sh 5))))
    (.cons (.ite (.cmp .eq (.sh 7) (.int 0))
    (.cons (.asg 9 (.ite (.cmp .gt (.sh 8) (.int 0)) (.slc (.sh 9) false .non true (.bin .add (.sh 4) (.sh 8))) (.slc (.sh 9) false .non true (.sh 4))))
    .nil)
    .nil)
    (.cons (.ite (.cmp .eq (.sh 7) (.int 1))
    (.cons (.asg 9 F._law_holdings.c1)
    .nil)
    .nil)
    (.cons (.asg 10 (.blt .sorted (.cons (.slc (.call 30 (.io 0 (.ex (.sh 9) .nil))) false .non true (.bin .add (.int 1) (.call 26 (.io 0 (.ex (.sh 3) .nil))))) .nil)))
    (.cons (.app 6 [] (.tup (.cons (.sh 10) (.cons (.call 36 (.io 0 (.ex (.len 10 []) .nil))) .nil))))
    .nil)))))
def F._law_holdings.l1 : S := (.for_ (.nm 8) (.rng1 (.sh 5))
    F._law_holdings.b1)
/-- 37: _law_holdings -/
def F._law_holdings : Fd := ⟨4, 12, [0],
    (.cons (.unp [4, 5] (.tup (.cons (.bin .add (.int 1) (.call 26 (.io 0 (.ex (.sh 1) .nil)))) (.cons (.bin .add (.int 1) (.call 26 (.io 0 (.ex (.sh 2) .nil)))) .nil))))
    (.cons (.par 6 7 (.lst .nil) (.call 26 (.io 0 (.ex (.int 4) .nil))))
    (.cons F._law_holdings.l1
    (.cons (.ret (.tup (.cons (.mv 4) (.cons (.mv 6) .nil))))
    .nil))))⟩
def F._law_answers.c1 : E := (.comp [4] (.blt .int (.cons (.cmp .isIn (.sh 4) (.sh 1)) .nil)) (.nm 4) (.rng1 (.pk 0 [.n 0])) none .non)
def F._law_answers.c2 : E := (.comp [7] (.pk 3 [.v 7]) (.nm 7) (.e (.sh 5)) none .non)
def F._law_answers.c3 : E := (.comp [5, 6] (.sub (.sh 6) (.call 33 (.ex (.bin .mul (.lst (.cons (.int 2) .nil)) (.len 5 [])) (.ex F._law_answers.c2 .nil)))) (.tp [5, 6]) (.e (.pk 0 [.n 1])) none .non)
/-- 38: _law_answers -/
def F._law_answers : Fd := ⟨3, 8, [],
    (.cons (.asg 3 (.bin .add F._law_answers.c1 (.blt .list (.cons (.sh 2) .nil))))
    (.cons (.ret F._law_answers.c3)
    .nil))⟩
def F._law_outcomes.c1 : E := (.comp [3] (.blt .list (.cons (.sh 3) .nil)) (.nm 3) (.e (.call 31 (.ex (.bin .mul (.lst (.cons (.int 2) .nil)) (.len 0 [.n 1])) .nil))) none .non)
def F._law_outcomes.c2 : E := (.comp [3] (.sh 3) (.nm 3) (.e (.sh 2)) (some ()) (.cmp .eq (.call 38 (.ex (.sh 0) (.ex (.sh 1) (.ex (.sh 3) .nil)))) (.sh 3)))
/-- 39: _law_outcomes -/
def F._law_outcomes : Fd := ⟨2, 4, [],
    (.cons (.asg 2 F._law_outcomes.c1)
    (.cons (.ret F._law_outcomes.c2)
    .nil))⟩
def F._law_all_lots.c1 : E := (.comp [2] (.sh 2) (.nm 2) (.rng1 (.sh 0)) (some ()) (.cmp .eq (.pk 1 [.v 2]) (.int 1)))
def F._law_all_lots.c2 : E := (.comp [1] F._law_all_lots.c1 (.nm 1) (.e (.call 31 (.ex (.bin .mul (.lst (.cons (.int 2) .nil)) (.sh 0)) .nil))) none .non)
/-- 40: _law_all_lots -/
def F._law_all_lots : Fd := ⟨1, 3, [],
    (.cons (.ret F._law_all_lots.c2)
    .nil)⟩
def F._law_brings.c1 : E := (.comp [5] (.sh 5) (.nm 5) (.e (.sh 1)) (some ()) (.cmp .notIn (.sh 5) (.sh 4)))
def F._law_brings.c2 : E := (.comp [4] (.sh 4) (.nm 4) (.e (.call 40 (.ex (.pk 0 [.n 0]) .nil))) (some ()) (.cmp .eq F._law_brings.c1 (.lst .nil)))
def F._law_brings.c3 : E := (.comp [6] (.sh 6) (.nm 6) (.e (.call 39 (.ex (.sh 0) (.ex (.sh 4) .nil)))) (some ()) (.cmp .eq (.pk 6 [.v 2]) (.int 0)))
def F._law_brings.c4 : E := (.comp [4] (.sh 4) (.nm 4) (.e (.sh 3)) (some ()) (.cmp .ne F._law_brings.c3 (.lst .nil)))
/-- 41: _law_brings -/
def F._law_brings : Fd := ⟨3, 7, [],
    (.cons (.asg 3 F._law_brings.c2)
    (.cons (.ret (.cmp .eq F._law_brings.c4 (.lst .nil)))
    .nil))⟩
def F._law_lot.c1 : E := (.comp [2] (.sh 2) (.nm 2) (.rng1 (.sh 1)) (some ()) (.cmp .eq (.call 26 (.io 0 (.ex (.int 2) .nil))) (.int 0)))
/-- 42: _law_lot -/
def F._law_lot : Fd := ⟨2, 3, [0],
    (.cons (.ret F._law_lot.c1)
    .nil)⟩
def F._law_is_chain.c1 : E := (.comp [4] (.sh 4) (.nm 4) (.e (.sh 2)) (some ()) (.or (.cons (.not (.isI (.sh 4) [.int])) (.cons (.isI (.sh 4) [.bool]) (.cons (.not (.chain .le .lt (.int 0) (.sh 4) (.sh 3))) .nil)))))
def F._law_is_chain.c2 : E := (.comp [7] (.blt .int (.cons (.cmp .isIn (.sh 7) (.slc (.sh 2) false .non true (.sh 5))) .nil)) (.nm 7) (.rng1 (.sh 3)) none .non)
def F._law_is_chain.b1 : Ss := (.cons (.asg 6 F._law_is_chain.c2)
    (.cons (.ite (.or (.cons (.cmp .isIn (.pk 2 [.v 5]) (.slc (.sh 2) false .non true (.sh 5))) (.cons (.cmp .ne (.sub (.call 38 (.ex (.sh 0) (.ex (.sh 1) (.ex (.sh 6) .nil)))) (.pk 2 [.v 5])) (.int 1)) .nil)))
    (.cons (.ret (.bl false))
    .nil)
    .nil)
    .nil))
def F._law_is_chain.l1 : S := (.for_ (.nm 5) (.rng1 (.len 2 []))
    F._law_is_chain.b1)
def F._law_is_chain.c3 : E := (.comp [7] (.blt .int (.cons (.cmp .isIn (.sh 7) (.sh 2)) .nil)) (.nm 7) (.rng1 (.sh 3)) none .non)
def F._law_is_chain.c4 : E := (.comp [7] (.sh 7) (.nm 7) (.rng1 (.sh 3)) (some ()) (.and (.cons (.cmp .eq (.pk 8 [.v 7]) (.int 1)) (.cons (.cmp .notIn (.sh 7) (.sh 2)) .nil))))
/-- 43: _law_is_chain -/
def F._law_is_chain : Fd := ⟨3, 9, [],
    (.cons (.asg 3 (.len 0 [.n 1]))
    (.cons (.ite (.or (.cons (.not (.isI (.sh 2) [.list])) (.cons (.cmp .ne F._law_is_chain.c1 (.lst .nil)) .nil)))
    (.cons (.ret (.bl false))
    .nil)
    .nil)
    (.cons F._law_is_chain.l1
    (.cons (.asg 8 (.call 38 (.ex (.sh 0) (.ex (.sh 1) (.ex F._law_is_chain.c3 .nil)))))
    (.cons (.ret (.cmp .eq F._law_is_chain.c4 (.lst .nil)))
    .nil)))))⟩
def F._law_drawn_chain.c1 : E := (.comp [8] (.blt .int (.cons (.inp 8 [] 3 [] false) .nil)) (.nm 8) (.rng1 (.sh 4)) none .non)
def F._law_drawn_chain.c2 : E := (.comp [8] (.sh 8) (.nm 8) (.rng1 (.sh 4)) (some ()) (.and (.cons (.cmp .eq (.pk 6 [.v 8]) (.int 1)) (.cons (.inp 8 [] 3 [] true) .nil))))
def F._law_drawn_chain.b1 : Ss := (.cons (.asg 6 (.call 38 (.ex (.sh 1) (.ex (.sh 2) (.ex F._law_drawn_chain.c1 .nil)))))
    (.cons (.asg 7 F._law_drawn_chain.c2)
    (.cons (.ite (.emp 7 [] false)
    (.cons .brk
    .nil)
    .nil)
    (.cons (.app 3 [] (.call 29 (.io 0 (.ex (.sh 7) .nil))))
    .nil))))
def F._law_drawn_chain.l1 : S := (.for_ (.nm 5) (.rng1 (.sh 4))
    F._law_drawn_chain.b1)
/-- 44: _law_drawn_chain -/
def F._law_drawn_chain : Fd := ⟨3, 9, [0],
    (.cons (.unp [3, 4] (.tup (.cons (.lst .nil) (.cons (.len 1 [.n 1]) .nil))))
    (.cons F._law_drawn_chain.l1
    (.cons (.ret (.mv 3))
    .nil)))⟩
def F._law_changed_chains.c1 : E := (.comp [6] (.sh 6) (.nm 6) (.e (.sh 1)) (some ()) (.cmp .ne (.sh 6) (.sh 5)))
def F._law_changed_chains.c2 : E := (.comp [5] F._law_changed_chains.c1 (.nm 5) (.e (.sh 1)) none .non)
/-- 45: _law_changed_chains -/
def F._law_changed_chains : Fd := ⟨3, 7, [0],
    (.cons (.asg 3 (.lst (.cons .non (.cons (.int 7) (.cons (.blt .tuple (.cons (.sh 1) .nil)) (.cons (.bin .add (.sh 1) (.lst (.cons .non .nil))) (.cons (.bin .add (.sh 1) (.lst (.cons (.sh 2) .nil))) (.cons (.bin .add (.sh 1) (.lst (.cons (.bin .sub (.int 0) (.int 1)) .nil))) (.cons (.bin .add (.sh 1) (.lst (.cons (.bl false) .nil))) (.cons (.bin .add (.sh 1) (.lst (.cons (.str "0") .nil))) (.cons (.slc (.sh 1) false .non true (.neg (.int 1))) (.cons (.rvs (.sh 1)) (.cons (.bin .add (.sh 1) (.slc (.sh 1) false .non true (.int 1))) (.cons (.lrg1 (.sh 2)) (.cons (.lst .nil) .nil)))))))))))))))
    (.cons (.asg 4 (.call 26 (.io 0 (.ex (.bin .add (.len 1 []) (.int 1)) .nil))))
    (.cons (.app 3 [] (.bin .add (.bin .add (.slc (.sh 1) false .non true (.sh 4)) (.lst (.cons (.call 26 (.io 0 (.ex (.sh 2) .nil))) .nil))) (.slc (.sh 1) true (.sh 4) false .non)))
    (.cons (.app 3 [] (.call 30 (.io 0 (.ex (.sh 1) .nil))))
    (.cons (.app 3 [] (.call 30 (.io 0 (.ex (.lrg1 (.sh 2)) .nil))))
    (.cons (.ret (.bin .add (.mv 3) F._law_changed_chains.c2))
    .nil))))))⟩
def F._law_chains_right.b1 : Ss := (.cons (.ite (.not (.call 32 (.ex (.call 24 (.ex (.sh 1) (.ex (.sh 2) (.ex (.sh 7) .nil)))) (.ex (.call 43 (.ex (.sh 1) (.ex (.sh 2) (.ex (.sh 7) .nil)))) .nil))))
    (.cons (.ret (.bl false))
    .nil)
    .nil)
    .nil)
def F._law_chains_right.l1 : S := (.for_ (.nm 7) (.e (.call 45 (.io 0 (.ex (.sh 5) (.ex (.sh 6) .nil)))))
    F._law_chains_right.b1)
def F._law_chains_right.b2 : Ss := (.cons (.ite (.not (.call 32 (.ex (.call 21 (.ex (.sh 1) (.ex (.sh 2) (.ex (.sh 8) .nil)))) (.ex (.cmp .isIn (.sh 8) (.sh 5)) .nil))))
    (.cons (.ret (.bl false))
    .nil)
    .nil)
    .nil)
def F._law_chains_right.l2 : S := (.for_ (.nm 8) (.rng1 (.sh 6))
    F._law_chains_right.b2)
/-- 46: _law_chains_right -/
def F._law_chains_right : Fd := ⟨3, 9, [0],
    (.cons (.par 3 4 (.blt .repr (.cons (.lst (.cons (.sh 1) (.cons (.sh 2) .nil))) .nil)) (.call 23 (.ex (.sh 1) (.ex (.sh 2) .nil))))
    (.cons (.par 5 6 (.call 44 (.io 0 (.ex (.sh 1) (.ex (.sh 2) .nil)))) (.len 1 [.n 1]))
    (.cons (.ite (.or (.cons (.not (.call 43 (.ex (.sh 1) (.ex (.sh 2) (.bw 4 .nil))))) (.cons (.cmp .ne (.srtp 4 []) (.blt .sorted (.cons (.sh 5) .nil))) .nil)))
    (.cons (.ret (.bl false))
    .nil)
    .nil)
    (.cons (.ite (.or (.cons (.cmp .notN (.call 24 (.ex (.sh 1) (.ex (.sh 2) (.bw 4 .nil)))) (.bl true)) (.cons (.cmp .notN (.callK 24 (.ex (.sh 5) (.ex (.sh 2) (.ex (.sh 1) .nil))) [2, 1, 0] [2, 1, 0]) (.bl true)) .nil)))
    (.cons (.ret (.bl false))
    .nil)
    .nil)
    (.cons F._law_chains_right.l1
    (.cons (.app 4 [] (.int 7))
    (.cons (.ite (.not (.call 43 (.ex (.sh 1) (.ex (.sh 2) (.ex (.callK 23 (.ex (.sh 2) (.ex (.sh 1) .nil)) [1, 0] [1, 0]) .nil)))))
    (.cons (.ret (.bl false))
    .nil)
    .nil)
    (.cons F._law_chains_right.l2
    (.cons (.ret (.cmp .eq (.blt .repr (.cons (.lst (.cons (.sh 1) (.cons (.sh 2) .nil))) .nil)) (.mv 3)))
    .nil)))))))))⟩
def F.law.b1 : Ss := (.cons (.ite (.not (.call 46 (.io 1 (.ex (.sh 2) (.ex (.sh 4) .nil)))))
    (.cons (.ret (.bl false))
    .nil)
    .nil)
    .nil)
def F.law.l1 : S := (.for_ (.nm 4) (.e (.lst (.cons (.sh 3) (.cons (.lrg1 (.pk 2 [.n 0])) (.cons (.call 42 (.io 1 (.ex (.pk 2 [.n 0]) .nil))) (.cons (.lst .nil) .nil))))))
    F.law.b1)
def F.law.c1 : E := (.comp [6] (.call 41 (.ex (.sh 2) (.ex (.sh 3) (.ex (.sh 6) .nil)))) (.nm 6) (.rng1 (.len 2 [.n 1])) none .non)
def F.law.c2 : E := (.comp [6] (.call 21 (.ex (.sh 2) (.ex (.sh 3) (.ex (.sh 6) .nil)))) (.nm 6) (.rng1 (.len 2 [.n 1])) none .non)
/-- 47: law -/
def F.law : Fd := ⟨1, 11, [],
    (.cons (.asg 1 (.call 28 (.ex (.sh 0) (.ex (.int 0) .nil))))
    (.cons (.asg 2 (.call 37 (.io 1 (.ex (.int 4) (.ex (.int 4) (.ex (.int 4) .nil))))))
    (.cons (.asg 3 (.call 42 (.io 1 (.ex (.pk 2 [.n 0]) .nil))))
    (.cons F.law.l1
    (.cons (.asg 5 F.law.c1)
    (.cons (.ite (.not (.call 32 (.ex F.law.c2 (.ex (.sh 5) .nil))))
    (.cons (.ret (.bl false))
    .nil)
    .nil)
    (.cons (.asg 7 (.call 37 (.io 1 (.ex (.int 6) (.ex (.int 8) (.ex (.int 6) .nil))))))
    (.cons (.ite (.not (.call 46 (.io 1 (.ex (.sh 7) (.ex (.call 42 (.io 1 (.ex (.pk 7 [.n 0]) .nil))) .nil)))))
    (.cons (.ret (.bl false))
    .nil)
    .nil)
    (.cons (.asg 8 (.tup (.cons (.int 2) (.cons (.lst (.cons (.tup (.cons (.lst (.cons (.int 0) (.cons (.int 1) (.cons (.int 3) .nil)))) (.cons (.lst (.cons (.int 0) (.cons (.int 0) (.cons (.int 0) (.cons (.int 1) (.cons (.int 0) (.cons (.int 1) (.cons (.int 1) (.cons (.int 1) .nil))))))))) .nil))) (.cons (.tup (.cons (.lst (.cons (.int 2) (.cons (.int 3) .nil))) (.cons (.lst (.cons (.int 0) (.cons (.int 0) (.cons (.int 0) (.cons (.int 1) .nil))))) .nil))) .nil))) .nil))))
    (.cons (.asg 9 (.lst (.cons (.call 21 (.ex (.sh 8) (.ex (.lst (.cons (.int 0) .nil)) (.ex (.int 0) .nil)))) (.cons (.call 21 (.ex (.sh 8) (.ex (.lst (.cons (.int 0) (.cons (.int 1) .nil))) (.ex (.int 0) .nil)))) (.cons (.callK 21 (.ex (.int 1) (.ex (.lst (.cons (.int 0) (.cons (.int 1) .nil))) (.ex (.sh 8) .nil))) [2, 1, 0] [2, 1, 0]) (.cons (.call 23 (.ex (.sh 8) (.ex (.lst (.cons (.int 0) (.cons (.int 1) .nil))) .nil))) (.cons (.call 24 (.ex (.sh 8) (.ex (.lst (.cons (.int 0) (.cons (.int 1) .nil))) (.ex (.lst (.cons (.int 0) .nil)) .nil)))) (.cons (.call 24 (.ex (.sh 8) (.ex (.lst (.cons (.int 0) (.cons (.int 1) .nil))) (.ex (.lst (.cons (.int 0) (.cons (.int 1) .nil))) .nil)))) .nil))))))))
    (.cons (.asg 10 (.lst (.cons (.call 24 (.ex (.sh 8) (.ex (.lst (.cons (.int 0) (.cons (.int 1) .nil))) (.ex (.lst .nil) .nil)))) (.cons (.call 23 (.ex (.sh 8) (.ex (.lst (.cons (.int 1) .nil)) .nil))) (.cons (.call 23 (.ex (.tup (.cons (.int 1) (.cons (.lst (.cons (.tup (.cons (.lst (.cons (.int 0) .nil)) (.cons (.lst (.cons (.int 1) (.cons (.int 1) .nil))) .nil))) .nil)) .nil))) (.ex (.lst .nil) .nil))) .nil)))))
    (.cons (.ret (.call 32 (.ex (.bin .add (.mv 9) (.mv 10)) (.ex (.lst (.cons (.bl false) (.cons (.bl true) (.cons (.bl false) (.cons (.lst (.cons (.int 0) .nil)) (.cons (.bl true) (.cons (.bl false) (.cons (.bl false) (.cons (.lst .nil) (.cons (.lst (.cons (.int 0) .nil)) .nil)))))))))) .nil))))
    .nil))))))))))))⟩

def top (i : Nat) : Stmt := PySem.Challenge.pw_pastvotes_k81_whole_brings_and_chains.main.body.getD i (.Pass ⟨0, 0, 0, 0⟩)
def d0 : PD := ⟨"is_whole", ["value"], ["value"], defArgs (top 6), defBody (top 6), defScope (top 6), F.is_whole⟩
def d1 : PD := ⟨"is_count", ["value"], ["value"], defArgs (top 7), defBody (top 7), defScope (top 7), F.is_count⟩
def d2 : PD := ⟨"is_rule_of", ["council", "value"], ["council", "value", "grade"], defArgs (top 8), defBody (top 8), defScope (top 8), F.is_rule_of⟩
def d3 : PD := ⟨"count_of", ["council"], ["council", "count", "size"], defArgs (top 9), defBody (top 9), defScope (top 9), F.count_of⟩
def d4 : PD := ⟨"listed_ballots", ["sizes"], ["sizes", "rows", "size", "row", "choice"], defArgs (top 10), defBody (top 10), defScope (top 10), F.listed_ballots⟩
def d5 : PD := ⟨"number_in", ["sizes", "ballot"], ["sizes", "ballot", "number", "seat", "size"], defArgs (top 11), defBody (top 11), defScope (top 11), F.number_in⟩
def d6 : PD := ⟨"heights_of", ["council", "order", "ballot"], ["council", "order", "ballot", "counts", "choice", "count", "seat"], defArgs (top 13), defBody (top 13), defScope (top 13), F.heights_of⟩
def d7 : PD := ⟨"none_greater", ["counts", "other"], ["counts", "other", "at", "count"], defArgs (top 14), defBody (top 14), defScope (top 14), F.none_greater⟩
def d8 : PD := ⟨"rises_by_steps", ["council", "rule"], ["council", "rule", "step", "size", "at", "grade"], defArgs (top 15), defBody (top 15), defScope (top 15), F.rises_by_steps⟩
def d9 : PD := ⟨"fall_of", ["council", "order", "rule"], ["council", "order", "rule", "ballots", "counts", "ballot", "low", "lower", "high", "upper"], defArgs (top 16), defBody (top 16), defScope (top 16), F.fall_of⟩
def d10 : PD := ⟨"first_fall_of", ["council", "rule"], ["council", "rule"], defArgs (top 17), defBody (top 17), defScope (top 17), F.first_fall_of⟩
def d11 : PD := ⟨"is_ascending", ["value", "bound"], ["value", "bound", "number", "at"], defArgs (top 19), defBody (top 19), defScope (top 19), F.is_ascending⟩
def d12 : PD := ⟨"is_company_of", ["bound", "value"], ["bound", "value", "holders", "rule", "council"], defArgs (top 20), defBody (top 20), defScope (top 20), F.is_company_of⟩
def d13 : PD := ⟨"is_holdings", ["value"], ["value", "bound", "company"], defArgs (top 21), defBody (top 21), defScope (top 21), F.is_holdings⟩
def d14 : PD := ⟨"check_holdings", ["holdings"], ["holdings"], defArgs (top 22), defBody (top 22), defScope (top 22), F.check_holdings⟩
def d15 : PD := ⟨"check_people", ["holdings", "crowd"], ["holdings", "crowd"], defArgs (top 23), defBody (top 23), defScope (top 23), F.check_people⟩
def d16 : PD := ⟨"check_company", ["holdings", "company"], ["holdings", "company"], defArgs (top 24), defBody (top 24), defScope (top 24), F.check_company⟩
def d17 : PD := ⟨"said_by", ["holdings", "crowd"], ["holdings", "crowd", "person"], defArgs (top 25), defBody (top 25), defScope (top 25), F.said_by⟩
def d18 : PD := ⟨"answers", ["holdings", "said"], ["holdings", "said", "told", "holders", "rule", "holder"], defArgs (top 26), defBody (top 26), defScope (top 26), F.answers⟩
def d19 : PD := ⟨"settled_from", ["holdings", "crowd", "first"], ["holdings", "crowd", "first", "people", "told", "after"], defArgs (top 27), defBody (top 27), defScope (top 27), F.settled_from⟩
def d20 : PD := ⟨"least_of", ["holdings", "crowd"], ["holdings", "crowd"], defArgs (top 28), defBody (top 28), defScope (top 28), F.least_of⟩
def d21 : PD := ⟨"brings", ["holdings", "crowd", "company"], ["holdings", "crowd", "company"], defArgs (top 29), defBody (top 29), defScope (top 29), F.brings⟩
def d22 : PD := ⟨"carried_with", ["holdings", "crowd", "chain"], ["holdings", "crowd", "chain", "told", "company", "after", "word"], defArgs (top 30), defBody (top 30), defScope (top 30), F.carried_with⟩
def d23 : PD := ⟨"chain_of", ["holdings", "crowd"], ["holdings", "crowd", "chain", "fresh", "company"], defArgs (top 31), defBody (top 31), defScope (top 31), F.chain_of⟩
def d24 : PD := ⟨"is_chain", ["holdings", "crowd", "value"], ["holdings", "crowd", "value", "at", "company"], defArgs (top 32), defBody (top 32), defScope (top 32), F.is_chain⟩
def d25 : PD := ⟨"_law_hash", ["seed", "index"], ["seed", "index", "mixed"], defArgs (top 34), defBody (top 34), defScope (top 34), F._law_hash⟩
def d26 : PD := ⟨"_law_random", ["generator", "bound"], ["generator", "bound", "drawn", "turn"], defArgs (top 35), defBody (top 35), defScope (top 35), F._law_random⟩
def d27 : PD := ⟨"_law_cell", ["script", "index"], ["script", "index"], defArgs (top 36), defBody (top 36), defScope (top 36), F._law_cell⟩
def d28 : PD := ⟨"_law_generator", ["script", "index"], ["script", "index", "seed"], defArgs (top 37), defBody (top 37), defScope (top 37), F._law_generator⟩
def d29 : PD := ⟨"_law_pick", ["generator", "things"], ["generator", "things"], defArgs (top 38), defBody (top 38), defScope (top 38), F._law_pick⟩
def d30 : PD := ⟨"_law_drawn_order", ["generator", "things"], ["generator", "things", "left", "found"], defArgs (top 39), defBody (top 39), defScope (top 39), F._law_drawn_order⟩
def d31 : PD := ⟨"_law_ballots", ["sizes"], ["sizes", "rows", "size", "row", "choice"], defArgs (top 40), defBody (top 40), defScope (top 40), F._law_ballots⟩
def d32 : PD := ⟨"_law_same", ["told", "due"], ["told", "due", "at"], defArgs (top 41), defBody (top 41), defScope (top 41), F._law_same⟩
def d33 : PD := ⟨"_law_number_in", ["sizes", "ballot"], ["sizes", "ballot", "number", "seat"], defArgs (top 42), defBody (top 42), defScope (top 42), F._law_number_in⟩
def d34 : PD := ⟨"_law_below", ["ballot", "other"], ["ballot", "other", "seat"], defArgs (top 43), defBody (top 43), defScope (top 43), F._law_below⟩
def d35 : PD := ⟨"_law_weighted", ["generator", "seats"], ["generator", "seats", "weights", "seat", "bar", "ballot"], defArgs (top 44), defBody (top 44), defScope (top 44), F._law_weighted⟩
def d36 : PD := ⟨"_law_rising", ["generator", "seats"], ["generator", "seats", "ballots", "way", "grade", "ballot", "lots", "turn", "lot", "rule", "other", "at"], defArgs (top 45), defBody (top 45), defScope (top 45), F._law_rising⟩
def d37 : PD := ⟨"_law_holdings", ["generator", "people_most", "companies_most", "holders_most"], ["generator", "people_most", "companies_most", "holders_most", "people", "many", "companies", "way", "turn", "lot", "holders", "number"], defArgs (top 46), defBody (top 46), defScope (top 46), F._law_holdings⟩
def d38 : PD := ⟨"_law_answers", ["holdings", "crowd", "told"], ["holdings", "crowd", "told", "said", "person", "holders", "rule", "holder"], defArgs (top 47), defBody (top 47), defScope (top 47), F._law_answers⟩
def d39 : PD := ⟨"_law_outcomes", ["holdings", "crowd"], ["holdings", "crowd", "rows", "row"], defArgs (top 48), defBody (top 48), defScope (top 48), F._law_outcomes⟩
def d40 : PD := ⟨"_law_all_lots", ["people"], ["people", "ballot", "person"], defArgs (top 49), defBody (top 49), defScope (top 49), F._law_all_lots⟩
def d41 : PD := ⟨"_law_brings", ["holdings", "crowd", "company"], ["holdings", "crowd", "company", "wider", "lot", "person", "row"], defArgs (top 50), defBody (top 50), defScope (top 50), F._law_brings⟩
def d42 : PD := ⟨"_law_lot", ["generator", "people"], ["generator", "people", "person"], defArgs (top 51), defBody (top 51), defScope (top 51), F._law_lot⟩
def d43 : PD := ⟨"_law_is_chain", ["holdings", "crowd", "value"], ["holdings", "crowd", "value", "many", "at", "place", "told", "company", "after"], defArgs (top 52), defBody (top 52), defScope (top 52), F._law_is_chain⟩
def d44 : PD := ⟨"_law_drawn_chain", ["generator", "holdings", "crowd"], ["generator", "holdings", "crowd", "chain", "many", "turn", "after", "fresh", "company"], defArgs (top 53), defBody (top 53), defScope (top 53), F._law_drawn_chain⟩
def d45 : PD := ⟨"_law_changed_chains", ["generator", "chain", "many"], ["generator", "chain", "many", "found", "at", "leaver", "company"], defArgs (top 54), defBody (top 54), defScope (top 54), F._law_changed_chains⟩
def d46 : PD := ⟨"_law_chains_right", ["generator", "holdings", "crowd"], ["generator", "holdings", "crowd", "kept", "told", "own", "many", "value", "company"], defArgs (top 55), defBody (top 55), defScope (top 55), F._law_chains_right⟩
def d47 : PD := ⟨"law", ["script"], ["script", "generator", "holdings", "crowd", "lot", "due", "company", "great", "ring", "told", "more"], defArgs (top 56), defBody (top 56), defScope (top 56), F.law⟩
def tab : List PD := [d0, d1, d2, d3, d4, d5, d6, d7, d8, d9, d10, d11, d12, d13, d14, d15, d16, d17, d18, d19, d20, d21, d22, d23, d24, d25, d26, d27, d28, d29, d30, d31, d32, d33, d34, d35, d36, d37, d38, d39, d40, d41, d42, d43, d44, d45, d46, d47]
def kl : List (Nat × List Str × List Nat) := [(24, ["value", "crowd", "holdings"], [2, 1, 0]), (23, ["crowd", "holdings"], [1, 0]), (21, ["company", "crowd", "holdings"], [2, 1, 0])]
end K81

namespace K81
open OE PySem PySem.Spec PyProof.Rows L2
def prog : List Fd := tab.map (·.fd)
theorem log2_of {i : Int} {k : Nat} (h : i.natAbs < 2 ^ k) : i.natAbs.log2 ≤ k := by
  by_cases h0 : i.natAbs = 0
  · rw [h0]; simp [ev, evs, evA, evAnd, evOr, evI, ex, exs, runF, shP, getV, getP, place, isTys, isTy, outsOf, List.range_succ, fillA, backA, hasBw, cmpD, binD, bltD, bLen, ixv, subD, wipeD, bindT, bindMany, seqD, putD, putI, backD, isLstAt, setP, cStep, fStep, Function.comp_def]
  · exact Nat.le_of_lt ((Nat.log2_lt h0).mpr h)
theorem mulOk_of {i j : Int} (k m : Nat) (hi : i.natAbs < 2 ^ k) (hj : j.natAbs < 2 ^ m) (h : k + m < 1000000) : mulOk i j = true := by
  refine chk_iff.mpr ?_
  have := log2_of hi
  have := log2_of hj
  omega
theorem hash_ok (n : Nat) {s x : Int} (hs : 0 ≤ s ∧ s < 2147483648) (hx : 0 ≤ x ∧ x < 1099511627776) : ∃ r : Int, 0 ≤ r ∧ r < 2147483647 ∧ evF prog (n + 1) 25 [.int s, .int x] = some (.int r, [.hole, .hole]) := by
  have m1 : mulOk s 1140671 = true := mulOk_of 31 30 (by omega) (by decide) (by decide)
  have m2 : mulOk 27644437 x = true := mulOk_of 30 40 (by decide) (by omega) (by decide)
  have m3 : mulOk (27644437 * x) x = true := mulOk_of 70 40 (by omega) (by omega) (by decide)
  have m4 : mulOk 131 x = true := mulOk_of 30 40 (by decide) (by omega) (by decide)
  have m5 : mulOk 62089 x = true := mulOk_of 30 40 (by decide) (by omega) (by decide)
  generalize ha : (s * 1140671 + 27644437 * x * x + 131 * x + 19) % 2147483629 = a
  have ha1 : 0 ≤ a ∧ a < 2147483629 := by omega
  have m6 : mulOk a a = true := mulOk_of 32 32 (by omega) (by omega) (by decide)
  generalize hb : (a * a + 62089 * x + 32416187) % 2147483587 = b
  have hb1 : 0 ≤ b ∧ b < 2147483587 := by omega
  have m7 : mulOk b 48271 = true := mulOk_of 32 30 (by omega) (by decide) (by decide)
  refine ⟨b * 48271 % 2147483647, by omega, by omega, ?_⟩
  show runF (evF prog n) F._law_hash [_, _] = _
  simp only [F._law_hash, runF, shP, share_int, List.length_cons, List.length_nil, if_true, List.not_mem_nil, if_false, List.cons_append, List.nil_append, List.replicate]
  simp [ev, evs, evA, evAnd, evOr, evI, ex, exs, runF, shP, getV, getP, place, isTys, isTy, outsOf, List.range_succ, fillA, backA, hasBw, cmpD, binD, bltD, bLen, ixv, subD, wipeD, bindT, bindMany, seqD, putD, putI, backD, isLstAt, setP, cStep, fStep, Function.comp_def, bInt, m1, m2, m3, m4, m5, ha, m6, hb, m7]
abbrev G (a b c : Int) : D := .lst true [.int a, .int b, .int c]
theorem random_pos (n : Nat) {a b c m : Int} (ha : 0 < a) (hm : 0 < m) (hm2 : m.natAbs.log2 < 9000) : evF prog (n + 1) 26 [G a b c, .int m] = some (.int (a % m), [G (a / m) b c, .hole]) := by
  have d1 : divOk m = true := by simp [ev, evs, evA, evAnd, evOr, evI, ex, exs, runF, shP, getV, getP, place, isTys, isTy, outsOf, List.range_succ, fillA, backA, hasBw, cmpD, binD, bltD, bLen, ixv, subD, wipeD, bindT, bindMany, seqD, putD, putI, backD, isLstAt, setP, cStep, fStep, Function.comp_def, divOk, hm, chk_iff.mpr hm2]
  have e0 : L2.ixN 3 0 = some 0 := by decide
  show runF (evF prog n) F._law_random [_, _] = _
  simp only [F._law_random, runF, shP, share_int, List.length_cons, List.length_nil, if_true, List.mem_singleton, List.not_mem_nil, if_false, List.cons_append, List.nil_append, List.replicate]
  simp [ev, evs, evA, evAnd, evOr, evI, ex, exs, runF, shP, getV, getP, place, isTys, isTy, outsOf, List.range_succ, fillA, backA, hasBw, cmpD, binD, bltD, bLen, ixv, subD, wipeD, bindT, bindMany, seqD, putD, putI, backD, isLstAt, setP, cStep, fStep, Function.comp_def, ha, hm, d1, bInt, e0]
def Gen (N : Nat) (d : D) : Prop := ∃ a b c : Int, d = G a b c ∧ 0 ≤ a ∧ 0 ≤ b ∧ b < 2147483648 ∧ 0 ≤ c ∧ c ≤ N
theorem Gen.mono {N M : Nat} {d : D} (g : Gen N d) (h : N ≤ M) : Gen M d := by
  obtain ⟨a, b, c, e, h1, h2, h3, h4, h5⟩ := g
  exact ⟨a, b, c, e, h1, h2, h3, h4, by omega⟩
theorem intBits_le {m : Int} {k : Nat} (h : m.natAbs < 2 ^ k) : PySem.Builtin.Int.intBits m ≤ k := by
  unfold PySem.Builtin.Int.intBits
  split
  · omega
  · rename_i h0
    have h0' : m.natAbs ≠ 0 := by simpa [ev, evs, evA, evAnd, evOr, evI, ex, exs, runF, shP, getV, getP, place, isTys, isTy, outsOf, List.range_succ, fillA, backA, hasBw, cmpD, binD, bltD, bLen, ixv, subD, wipeD, bindT, bindMany, seqD, putD, putI, backD, isLstAt, setP, cStep, fStep, Function.comp_def] using h0
    have := (Nat.log2_lt h0').mpr h
    omega
theorem rnd_loop (n : Nat) (a b : Int) (m : Int) (hb : 0 ≤ b ∧ b < 2147483648) : ∀ (t k : Nat) (c dr : Int) (x : D), 0 ≤ c → c + t ≤ 1099511627000 → 0 ≤ dr → dr < 2147483648 ^ k → k + t ≤ 1000 →
    ∃ (c' dr' : Int) (x' : D), loopF (fun env d => (bindT ([0]) (.nm 3) d env).bind fun env1 => exs (evF prog (n + 1)) ([0]) (.cons (.seti 0 [] (.int 2) (.bin .add (.pk 0 [.n 2]) (.int 1))) (.cons (.asg 2 (.bin .add (.bin .mul (.sh 2) (.int 2147483587)) (.call 25 (.ex (.pk 0 [.n 1]) (.ex (.pk 0 [.n 2]) .nil))))) .nil)) env1)
      ((List.range t).map fun i : Nat => D.int (i : Nat)) [G a b c, .int m, .int dr, x] = some (.nx [G a b c', .int m, .int dr', x']) ∧ 0 ≤ c' ∧ c' ≤ c + t ∧ 0 ≤ dr' := by
  intro t
  suffices h : ∀ (l : List Nat) (k : Nat) (c dr : Int) (x : D), 0 ≤ c → c + l.length ≤ 1099511627000 → 0 ≤ dr → dr < 2147483648 ^ k → k + l.length ≤ 1000 →
    ∃ (c' dr' : Int) (x' : D), loopF (fun env d => (bindT ([0]) (.nm 3) d env).bind fun env1 => exs (evF prog (n + 1)) ([0]) (.cons (.seti 0 [] (.int 2) (.bin .add (.pk 0 [.n 2]) (.int 1))) (.cons (.asg 2 (.bin .add (.bin .mul (.sh 2) (.int 2147483587)) (.call 25 (.ex (.pk 0 [.n 1]) (.ex (.pk 0 [.n 2]) .nil))))) .nil)) env1)
      (l.map fun i : Nat => D.int (i : Nat)) [G a b c, .int m, .int dr, x] = some (.nx [G a b c', .int m, .int dr', x']) ∧ 0 ≤ c' ∧ c' ≤ c + l.length ∧ 0 ≤ dr' by
    intro k c dr x h1 h2 h3 h4 h5
    have := h (List.range t) k c dr x h1 (by simpa [ev, evs, evA, evAnd, evOr, evI, ex, exs, runF, shP, getV, getP, place, isTys, isTy, outsOf, List.range_succ, fillA, backA, hasBw, cmpD, binD, bltD, bLen, ixv, subD, wipeD, bindT, bindMany, seqD, putD, putI, backD, isLstAt, setP, cStep, fStep, Function.comp_def] using h2) h3 h4 (by simpa [ev, evs, evA, evAnd, evOr, evI, ex, exs, runF, shP, getV, getP, place, isTys, isTy, outsOf, List.range_succ, fillA, backA, hasBw, cmpD, binD, bltD, bLen, ixv, subD, wipeD, bindT, bindMany, seqD, putD, putI, backD, isLstAt, setP, cStep, fStep, Function.comp_def] using h5)
    simpa [ev, evs, evA, evAnd, evOr, evI, ex, exs, runF, shP, getV, getP, place, isTys, isTy, outsOf, List.range_succ, fillA, backA, hasBw, cmpD, binD, bltD, bLen, ixv, subD, wipeD, bindT, bindMany, seqD, putD, putI, backD, isLstAt, setP, cStep, fStep, Function.comp_def] using this
  intro l
  induction l with
  | nil => intro k c dr x h1 h2 h3 h4 h5; exact ⟨c, dr, x, rfl, h1, by simp [ev, evs, evA, evAnd, evOr, evI, ex, exs, runF, shP, getV, getP, place, isTys, isTy, outsOf, List.range_succ, fillA, backA, hasBw, cmpD, binD, bltD, bLen, ixv, subD, wipeD, bindT, bindMany, seqD, putD, putI, backD, isLstAt, setP, cStep, fStep, Function.comp_def], h3⟩
  | cons i l ih =>
    intro k c dr x h1 h2 h3 h4 h5
    simp only [List.length_cons] at h2 h5
    obtain ⟨r, r1, r2, r3⟩ := hash_ok n (s := b) (x := c + 1) hb (by omega)
    have e0 : L2.ixN 3 2 = some 2 := by decide
    have hk : dr.natAbs < 2 ^ (31 * k) := by
      have h6 : (dr.natAbs : Int) < ((2 ^ (31 * k) : Nat) : Int) := by
        rw [Int.natAbs_of_nonneg h3, Nat.pow_mul]
        have e31 : (2 : Nat) ^ 31 = 2147483648 := by decide
        rw [e31]
        have e32 : ((2147483648 ^ k : Nat) : Int) = 2147483648 ^ k := by simp [ev, evs, evA, evAnd, evOr, evI, ex, exs, runF, shP, getV, getP, place, isTys, isTy, outsOf, List.range_succ, fillA, backA, hasBw, cmpD, binD, bltD, bLen, ixv, subD, wipeD, bindT, bindMany, seqD, putD, putI, backD, isLstAt, setP, cStep, fStep, Function.comp_def]
        rw [e32]; exact h4
      exact_mod_cast h6
    have m1 : mulOk dr 2147483587 = true := mulOk_of (31 * k) 31 hk (by decide) (by omega)
    have d1 : 0 ≤ dr * 2147483587 + r := by omega
    have d2 : dr * 2147483587 + r < 2147483648 ^ (k + 1) := by
      rw [Int.pow_succ]
      have := h4
      omega
    obtain ⟨c', dr', x', e, q1, q2, q3⟩ := ih (k + 1) (c + 1) (dr * 2147483587 + r) (.int i) (by omega) (by omega) d1 d2 (by omega)
    refine ⟨c', dr', x', ?_, q1, by simp only [List.length_cons]; omega, q3⟩
    rw [List.map_cons, loopF]
    simp [ev, evs, evA, evAnd, evOr, evI, ex, exs, runF, shP, getV, getP, place, isTys, isTy, outsOf, List.range_succ, fillA, backA, hasBw, cmpD, binD, bltD, bLen, ixv, subD, wipeD, bindT, bindMany, seqD, putD, putI, backD, isLstAt, setP, cStep, fStep, Function.comp_def, e0, r3, m1]
    simpa [ev, evs, evA, evAnd, evOr, evI, ex, exs, runF, shP, getV, getP, place, isTys, isTy, outsOf, List.range_succ, fillA, backA, hasBw, cmpD, binD, bltD, bLen, ixv, subD, wipeD, bindT, bindMany, seqD, putD, putI, backD, isLstAt, setP, cStep, fStep, Function.comp_def] using e
theorem random_ok (n : Nat) {N : Nat} {g : D} {m : Int} (hg : Gen N g) (hN : N ≤ 1000000000) (hm : 0 < m) (hm2 : m < 2 ^ 2000) : ∃ r g', 0 ≤ r ∧ r < m ∧ Gen (N + 100) g' ∧ evF prog (n + 2) 26 [g, .int m] = some (.int r, [g', .hole]) := by
  obtain ⟨a, b, c, rfl, h1, h2, h3, h4, h5⟩ := hg
  have hmn : m.natAbs < 2 ^ 2000 := by
    have : (m.natAbs : Int) < ((2 ^ 2000 : Nat) : Int) := by rw [Int.natAbs_of_nonneg (by omega)]; exact_mod_cast hm2
    exact_mod_cast this
  by_cases ha : 0 < a
  · refine ⟨a % m, G (a / m) b c, Int.emod_nonneg _ (by omega), Int.emod_lt_of_pos _ hm, ⟨_, _, _, rfl, Int.ediv_nonneg h1 (by omega), h2, h3, h4, by omega⟩, ?_⟩
    have h6 : m.natAbs.log2 ≤ 2000 := log2_of hmn
    exact random_pos (n + 1) ha hm (by omega)
  · have hbits := intBits_le hmn
    have ht : PySem.Builtin.Int.intBits m / 30 ≤ 67 := by omega
    obtain ⟨c', dr', x', e, q1, q2, q3⟩ := rnd_loop n a b m ⟨h2, h3⟩ (1 + PySem.Builtin.Int.intBits m / 30) 0 c 0 .hole h4 (by omega) (by omega) (by simp [ev, evs, evA, evAnd, evOr, evI, ex, exs, runF, shP, getV, getP, place, isTys, isTy, outsOf, List.range_succ, fillA, backA, hasBw, cmpD, binD, bltD, bLen, ixv, subD, wipeD, bindT, bindMany, seqD, putD, putI, backD, isLstAt, setP, cStep, fStep, Function.comp_def]) (by omega)
    refine ⟨dr' % m, G a b c', Int.emod_nonneg _ (by omega), Int.emod_lt_of_pos _ hm, ⟨_, _, _, rfl, h1, h2, h3, q1, by omega⟩, ?_⟩
    have hr := rngs_zero (1 + PySem.Builtin.Int.intBits m / 30) (by omega)
    have hc : ((1 + PySem.Builtin.Int.intBits m / 30 : Nat) : Int) = 1 + ((PySem.Builtin.Int.intBits m : Nat) : Int) / 30 := by push_cast; rfl
    have dv : divOk 30 = true := by simp [ev, evs, evA, evAnd, evOr, evI, ex, exs, runF, shP, getV, getP, place, isTys, isTy, outsOf, List.range_succ, fillA, backA, hasBw, cmpD, binD, bltD, bLen, ixv, subD, wipeD, bindT, bindMany, seqD, putD, putI, backD, isLstAt, setP, cStep, fStep, Function.comp_def, divOk, chk_iff]; decide
    have ha2 : ¬ a > 0 := ha
    show runF (evF prog (n + 1)) F._law_random [_, _] = _
    have c1 : ex (evF prog (n + 1)) [0] (.ite (.cmp .gt (.pk 0 [.n 0]) (.int 0)) (.cons (.asg 2 (.bin .mod (.blt .int (.cons (.pk 0 [.n 0]) .nil)) (.sh 1))) (.cons (.seti 0 [] (.int 0) (.bin .fdiv (.pk 0 [.n 0]) (.sh 1))) (.cons (.ret (.mv 2)) .nil))) .nil) [G a b c, .int m, .hole, .hole] = some (.nx [G a b c, .int m, .hole, .hole]) := by
      simp [ev, evs, evA, evAnd, evOr, evI, ex, exs, runF, shP, getV, getP, place, isTys, isTy, outsOf, List.range_succ, fillA, backA, hasBw, cmpD, binD, bltD, bLen, ixv, subD, wipeD, bindT, bindMany, seqD, putD, putI, backD, isLstAt, setP, cStep, fStep, Function.comp_def, ha]
    have c2 : ex (evF prog (n + 1)) [0] (.asg 2 (.int 0)) [G a b c, .int m, .hole, .hole] = some (.nx [G a b c, .int m, .int 0, .hole]) := by simp [ev, evs, evA, evAnd, evOr, evI, ex, exs, runF, shP, getV, getP, place, isTys, isTy, outsOf, List.range_succ, fillA, backA, hasBw, cmpD, binD, bltD, bLen, ixv, subD, wipeD, bindT, bindMany, seqD, putD, putI, backD, isLstAt, setP, cStep, fStep, Function.comp_def]
    have hit : evI (evF prog (n + 1)) [0] (.rng1 (.bin .add (.int 1) (.bin .fdiv (.blt .bits (.cons (.sh 1) .nil)) (.int 30)))) [G a b c, .int m, .int 0, .hole] = some ((List.range (1 + PySem.Builtin.Int.intBits m / 30)).map fun i : Nat => D.int (i : Nat), [G a b c, .int m, .int 0, .hole], none) := by
      simp [ev, evs, evA, evAnd, evOr, evI, ex, exs, runF, shP, getV, getP, place, isTys, isTy, outsOf, List.range_succ, fillA, backA, hasBw, cmpD, binD, bltD, bLen, ixv, subD, wipeD, bindT, bindMany, seqD, putD, putI, backD, isLstAt, setP, cStep, fStep, Function.comp_def, bBits, dv]
      rw [← hc, hr]
    have hf := ex_for (Γ := evF prog (n + 1)) (ios := [0]) (tg := .nm 3) hit e
    simp only [F._law_random, runF, shP, share_int, List.length_cons, List.length_nil, if_true, List.mem_singleton, List.not_mem_nil, if_false, List.cons_append, List.nil_append, List.replicate, Nat.zero_add, Nat.one_ne_zero]
    rw [exs_nx c1, exs_nx c2, exs_nx (show _ = some (Fl.nx [G a b c', .int m, .int dr', x']) from hf)]
    simp [ev, evs, evA, evAnd, evOr, evI, ex, exs, runF, shP, getV, getP, place, isTys, isTy, outsOf, List.range_succ, fillA, backA, hasBw, cmpD, binD, bltD, bLen, ixv, subD, wipeD, bindT, bindMany, seqD, putD, putI, backD, isLstAt, setP, cStep, fStep, Function.comp_def, bInt, hm]
theorem cell_ok (n : Nat) (ns : List Int) (i : Nat) : ∃ s, evF prog (n + 1) 27 [.scr ns, .int i] = some (.int s, [.hole, .hole]) := by
  by_cases h : i < ns.length
  · refine ⟨ns[i], ?_⟩
    show runF (evF prog n) F._law_cell [_, _] = _
    simp [ev, evs, evA, evAnd, evOr, evI, ex, exs, runF, shP, getV, getP, place, isTys, isTy, outsOf, List.range_succ, fillA, backA, hasBw, cmpD, binD, bltD, bLen, ixv, subD, wipeD, bindT, bindMany, seqD, putD, putI, backD, isLstAt, setP, cStep, fStep, Function.comp_def, F._law_cell, h]
  · refine ⟨(cutD ns none (some 1)).sum % 1000003, ?_⟩
    show runF (evF prog n) F._law_cell [_, _] = _
    simp [ev, evs, evA, evAnd, evOr, evI, ex, exs, runF, shP, getV, getP, place, isTys, isTy, outsOf, List.range_succ, fillA, backA, hasBw, cmpD, binD, bltD, bLen, ixv, subD, wipeD, bindT, bindMany, seqD, putD, putI, backD, isLstAt, setP, cStep, fStep, Function.comp_def, F._law_cell, h, slcD, bSum]

theorem generator_ok (n : Nat) (ns : List Int) (i : Nat) (hi : i ≤ 1000) : ∃ g, Gen (1000 * i) g ∧ evF prog (n + 2) 28 [.scr ns, .int i] = some (g, [.hole, .hole]) := by
  obtain ⟨s, hs⟩ := cell_ok n ns i
  have p1 : powOk 10 18 = true := powOk_of (by decide) (by decide)
  have p2 : powOk 10 60 = true := powOk_of (by decide) (by decide)
  have p3 : powOk 1000000000000000000000000000000000000000000000000000000000000 10 = true := powOk_of (by decide) (by decide)
  have m1 : mulOk 1000 i = true := mulOk_of 10 20 (by decide) (by omega) (by decide)
  have hp : (0 : Int) < (10 ^ 60) ^ 10 := Int.pow_pos (Int.pow_pos (by decide))
  refine ⟨G ((if 0 > s - 10 ^ 18 then 0 else s - 10 ^ 18) % (10 ^ 60) ^ 10) (s % 2147483647) (1000 * i), ⟨_, _, _, rfl, Int.emod_nonneg _ (by omega), Int.emod_nonneg _ (by decide), by have := Int.emod_lt_of_pos s (show (0 : Int) < 2147483647 by decide); omega, by omega, by omega⟩, ?_⟩
  show runF (evF prog (n + 1)) F._law_generator [_, _] = _
  simp [ev, evs, evA, evAnd, evOr, evI, ex, exs, runF, shP, getV, getP, place, isTys, isTy, outsOf, List.range_succ, fillA, backA, hasBw, cmpD, binD, bltD, bLen, ixv, subD, wipeD, bindT, bindMany, seqD, putD, putI, backD, isLstAt, setP, cStep, fStep, Function.comp_def, F._law_generator, hs, p1, p2, p3, m1, bMax, bInt, le_lim]
theorem Gen.ne {N : Nat} {g : D} (h : Gen N g) : g ≠ .hole := by
  obtain ⟨a, b, c, rfl, _⟩ := h
  exact fun e => by cases e
@[simp] theorem Gen.sh {N : Nat} {g : D} (h : Gen N g) : getV (g :: []) 0 = some g := by
  obtain ⟨a, b, c, rfl, _⟩ := h; rfl
theorem Gen.get {N : Nat} {g : D} (h : Gen N g) (env : List D) : getV (g :: env) 0 = some g := by
  obtain ⟨a, b, c, rfl, _⟩ := h; rfl
theorem pick_ok (n : Nat) {N : Nat} {g t : D} {ns : List Int} (hg : Gen N g) (hN : N ≤ 1000000000) (ht : share t = LI ns) (h0 : ns ≠ []) (hl : ns.length ≤ 1000000) : ∃ r g', r ∈ ns ∧ Gen (N + 100) g' ∧ evF prog (n + 3) 29 [g, t] = some (.int r, [g', .hole]) := by
  have hpos : 0 < ns.length := List.length_pos_iff.mpr h0
  obtain ⟨r, g', h1, h2, h3, e⟩ := random_ok n (m := (ns.length : Nat)) hg hN (by omega) (by omega)
  obtain ⟨k, rfl⟩ := Int.eq_ofNat_of_zero_le h1
  have hk : k < ns.length := by omega
  refine ⟨ns[k], g', List.getElem_mem hk, h3, ?_⟩
  obtain ⟨a, b, c, rfl, _⟩ := hg
  obtain ⟨a', b', c', rfl, _⟩ := h3
  show runF (evF prog (n + 2)) F._law_pick [_, _] = _
  simp [ev, evs, evA, evAnd, evOr, evI, ex, exs, runF, shP, getV, getP, place, isTys, isTy, outsOf, List.range_succ, fillA, backA, hasBw, cmpD, binD, bltD, bLen, ixv, subD, wipeD, bindT, bindMany, seqD, putD, putI, backD, isLstAt, setP, cStep, fStep, Function.comp_def, F._law_pick, ht, e, hk]
theorem order_ok (n : Nat) {N : Nat} {g v : D} {ns : List Int} (hg : Gen N g) (hN : N + 100 * ns.length ≤ 1000000000) (hv : share v = LI ns) (hl : ns.length ≤ 1000) :
    ∃ (ms : List Int) (g' : D), ms.Perm ns ∧ Gen (N + 100 * ns.length) g' ∧ evF prog (n + 3) 30 [g, v] = some (.lst true (ms.map D.int), [g', .hole]) := by
  obtain ⟨env', e, g', left, found, rfl, h1, h2, h3⟩ := while_rel (Γ := evF prog (n + 2)) (ios := [0]) (body := F._law_drawn_order.b1) (c := .emp 2 [] true) (env := [g, LI ns, .lst true (ns.map D.int), .lst true []]) ns.length
    (fun k env => ∃ (g : D) (left found : List Int), env = [g, LI ns, .lst true (left.map D.int), .lst true (found.map D.int)] ∧ Gen (N + 100 * k) g ∧ (found ++ left).Perm ns ∧ left.length + k = ns.length)
    ⟨g, ns, [], rfl, by simpa [ev, evs, evA, evAnd, evOr, evI, ex, exs, runF, shP, getV, getP, place, isTys, isTy, outsOf, List.range_succ, fillA, backA, hasBw, cmpD, binD, bltD, bLen, ixv, subD, wipeD, bindT, bindMany, seqD, putD, putI, backD, isLstAt, setP, cStep, fStep, Function.comp_def] using hg, by simp [ev, evs, evA, evAnd, evOr, evI, ex, exs, runF, shP, getV, getP, place, isTys, isTy, outsOf, List.range_succ, fillA, backA, hasBw, cmpD, binD, bltD, bLen, ixv, subD, wipeD, bindT, bindMany, seqD, putD, putI, backD, isLstAt, setP, cStep, fStep, Function.comp_def], by simp [ev, evs, evA, evAnd, evOr, evI, ex, exs, runF, shP, getV, getP, place, isTys, isTy, outsOf, List.range_succ, fillA, backA, hasBw, cmpD, binD, bltD, bLen, ixv, subD, wipeD, bindT, bindMany, seqD, putD, putI, backD, isLstAt, setP, cStep, fStep, Function.comp_def]⟩ (by unfold wfuel; omega) (by
      rintro k env hk ⟨g, left, found, rfl, h1, h2, h3⟩
      have hpos : 0 < left.length := by omega
      obtain ⟨r, g', r1, r2, hg', e⟩ := random_ok n (m := (left.length : Nat)) h1 (by omega) (by omega) (by omega)
      obtain ⟨j, rfl⟩ := Int.eq_ofNat_of_zero_le r1
      have hj : j < left.length := by omega
      obtain ⟨a, b, c, rfl, _⟩ := id h1
      obtain ⟨a', b', c', rfl, _⟩ := id hg'
      have hf : found.length < 1000000 := by have := h2.length_eq; simp [ev, evs, evA, evAnd, evOr, evI, ex, exs, runF, shP, getV, getP, place, isTys, isTy, outsOf, List.range_succ, fillA, backA, hasBw, cmpD, binD, bltD, bLen, ixv, subD, wipeD, bindT, bindMany, seqD, putD, putI, backD, isLstAt, setP, cStep, fStep, Function.comp_def] at this; omega
      have hne : left.isEmpty = false := by cases left <;> simp_all [ev, evs, evA, evAnd, evOr, evI, ex, exs, runF, shP, getV, getP, place, isTys, isTy, outsOf, List.range_succ, fillA, backA, hasBw, cmpD, binD, bltD, bLen, ixv, subD, wipeD, bindT, bindMany, seqD, putD, putI, backD, isLstAt, setP, cStep, fStep, Function.comp_def]
      refine ⟨[G a b c, LI ns, .lst true (left.map D.int), .lst true (found.map D.int)], _, ?_, ?_, G a' b' c', left.eraseIdx j, found ++ [left[j]], rfl, ?_, ?_, ?_⟩
      · simp [ev, evs, evA, evAnd, evOr, evI, ex, exs, runF, shP, getV, getP, place, isTys, isTy, outsOf, List.range_succ, fillA, backA, hasBw, cmpD, binD, bltD, bLen, ixv, subD, wipeD, bindT, bindMany, seqD, putD, putI, backD, isLstAt, setP, cStep, fStep, Function.comp_def, eq_ints_nil, hne]
      · simp [ev, evs, evA, evAnd, evOr, evI, ex, exs, runF, shP, getV, getP, place, isTys, isTy, outsOf, List.range_succ, fillA, backA, hasBw, cmpD, binD, bltD, bLen, ixv, subD, wipeD, bindT, bindMany, seqD, putD, putI, backD, isLstAt, setP, cStep, fStep, Function.comp_def, F._law_drawn_order.b1, e, hj, small_nat j (by omega), lt_lim hf, eraseIdx_map]
      · exact hg'.mono (by omega)
      · refine List.Perm.trans ?_ h2
        rw [List.append_assoc]
        exact List.Perm.append_left _ (perm_erase left j hj)
      · rw [List.length_eraseIdx]; simp [ev, evs, evA, evAnd, evOr, evI, ex, exs, runF, shP, getV, getP, place, isTys, isTy, outsOf, List.range_succ, fillA, backA, hasBw, cmpD, binD, bltD, bLen, ixv, subD, wipeD, bindT, bindMany, seqD, putD, putI, backD, isLstAt, setP, cStep, fStep, Function.comp_def, hj]; omega)
    (by
      rintro env ⟨g, left, found, rfl, h1, h2, h3⟩
      have : left = [] := List.eq_nil_of_length_eq_zero (by omega)
      subst this
      exact ⟨_, by simp [ev, evs, evA, evAnd, evOr, evI, ex, exs, runF, shP, getV, getP, place, isTys, isTy, outsOf, List.range_succ, fillA, backA, hasBw, cmpD, binD, bltD, bLen, ixv, subD, wipeD, bindT, bindMany, seqD, putD, putI, backD, isLstAt, setP, cStep, fStep, Function.comp_def], g, [], found, rfl, h1, h2, h3⟩)
  have hleft : left = [] := List.eq_nil_of_length_eq_zero (by omega)
  subst hleft
  refine ⟨found, g', by simpa [ev, evs, evA, evAnd, evOr, evI, ex, exs, runF, shP, getV, getP, place, isTys, isTy, outsOf, List.range_succ, fillA, backA, hasBw, cmpD, binD, bltD, bLen, ixv, subD, wipeD, bindT, bindMany, seqD, putD, putI, backD, isLstAt, setP, cStep, fStep, Function.comp_def] using h2, h1, ?_⟩
  obtain ⟨a, b, c, rfl, _⟩ := id hg
  obtain ⟨a', b', c', rfl, _⟩ := id h1
  show runF (evF prog (n + 2)) F._law_drawn_order [_, _] = _
  have e' : ex (evF prog (n + 2)) [0] F._law_drawn_order.l1 [G a b c, LI ns, .lst true (ns.map D.int), .lst true []] = _ := e
  simp [ev, evs, evA, evAnd, evOr, evI, ex, exs, runF, shP, getV, getP, place, isTys, isTy, outsOf, List.range_succ, fillA, backA, hasBw, cmpD, binD, bltD, bLen, ixv, subD, wipeD, bindT, bindMany, seqD, putD, putI, backD, isLstAt, setP, cStep, fStep, Function.comp_def, F._law_drawn_order, hv, bList, le_lim, e']

end K81

namespace K81
open OE
/-! lists of noughts and ones -/
def bitl (n : Nat) (b : List Nat) : Prop := b.length = n ∧ ∀ x ∈ b, x ≤ 1
def num (b : List Nat) : Nat := b.foldl (fun a x => a * 2 + x) 0
/-- place by place -/
def leL (a b : List Nat) : Prop := ∀ i : Nat, (a[i]?).getD 0 ≤ (b[i]?).getD 0
abbrev B2 (n : Nat) : List (List Nat) := ballots (List.replicate n 2)
theorem num_snoc (b : List Nat) (x : Nat) : num (b ++ [x]) = num b * 2 + x := by simp [num]
theorem B2_succ (n : Nat) : B2 (n + 1) = (B2 n).flatMap fun r => [r ++ [0], r ++ [1]] := by
  unfold B2 ballots
  rw [List.replicate_succ', List.foldl_append, List.foldl_cons, List.foldl_nil]
  rfl
theorem range_two : ∀ m : Nat, ((List.range m).flatMap fun k => [k * 2, k * 2 + 1]) = List.range (2 * m)
  | 0 => rfl
  | m + 1 => by
    rw [List.range_succ, List.flatMap_append, range_two m, Nat.mul_succ, show 2 * m + 2 = (2 * m + 1) + 1 from rfl, List.range_succ, List.range_succ]
    simp [Nat.mul_comm]
theorem B2_num : ∀ n : Nat, (B2 n).map num = List.range (2 ^ n)
  | 0 => rfl
  | n + 1 => by
    rw [B2_succ, Nat.pow_succ, Nat.mul_comm, ← range_two, ← B2_num n, List.map_flatMap, List.flatMap_map]
    congr 1
    funext r
    simp [num_snoc]
theorem B2_mem : ∀ {n : Nat} {b : List Nat}, b ∈ B2 n ↔ bitl n b
  | 0, b => by
    simp only [B2, ballots, List.replicate_zero, List.foldl_nil, List.mem_singleton, bitl, List.length_eq_zero_iff]
    exact ⟨fun h => ⟨h, by rw [h]; simp⟩, fun h => h.1⟩
  | n + 1, b => by
    rw [B2_succ, List.mem_flatMap]
    constructor
    · rintro ⟨r, hr, hb⟩
      obtain ⟨h1, h2⟩ := B2_mem.mp hr
      simp only [List.mem_cons, List.not_mem_nil, or_false] at hb
      rcases hb with rfl | rfl
      · refine ⟨by simp [h1], fun x hx => ?_⟩
        rcases List.mem_append.mp hx with hx | hx
        · exact h2 x hx
        · simp at hx; omega
      · refine ⟨by simp [h1], fun x hx => ?_⟩
        rcases List.mem_append.mp hx with hx | hx
        · exact h2 x hx
        · simp at hx; omega
    · rintro ⟨h1, h2⟩
      have hne : b ≠ [] := by rintro rfl; simp at h1
      have e := List.dropLast_concat_getLast hne
      refine ⟨b.dropLast, B2_mem.mpr ⟨by simp [h1], fun x hx => h2 x (List.dropLast_subset _ hx)⟩, ?_⟩
      have := h2 _ (List.getLast_mem hne)
      have h3 : b.getLast hne = 0 ∨ b.getLast hne = 1 := by omega
      rcases h3 with h3 | h3 <;> rw [h3] at e
      · simp [e]
      · simp [e]
theorem B2_len (n : Nat) : (B2 n).length = 2 ^ n := by
  have := congrArg List.length (B2_num n)
  simpa using this
theorem B2_at {n : Nat} {b : List Nat} (h : bitl n b) : (B2 n)[num b]? = some b := by
  obtain ⟨i, hi, rfl⟩ := List.getElem_of_mem (B2_mem.mpr h)
  have e := congrArg (fun l => l[i]?) (B2_num n)
  simp only [List.getElem?_map, List.getElem?_eq_getElem hi, Option.map_some] at e
  rw [B2_len] at hi
  rw [List.getElem?_range hi] at e
  have e' := Option.some.inj e
  rw [e']
  exact List.getElem?_eq_getElem _
theorem num_lt {n : Nat} {b : List Nat} (h : bitl n b) : num b < 2 ^ n := by
  have := (List.getElem?_eq_some_iff.mp (B2_at h)).1
  rwa [B2_len] at this
theorem B2_sorted (n : Nat) : (B2 n).Pairwise fun a b => num a < num b := by
  have h : ((B2 n).map num).Pairwise (· < ·) := by rw [B2_num]; exact List.pairwise_lt_range
  rwa [List.pairwise_map] at h
theorem num_foldl (b : List Nat) : ∀ a : Nat, b.foldl (fun a x => a * 2 + x) a = a * 2 ^ b.length + num b := by
  induction b with
  | nil => intro a; simp [num]
  | cons x l ih =>
    intro a
    have e1 : num (x :: l) = x * 2 ^ l.length + num l := by
      have h0 : (0 * 2 + x) = x := by omega
      show l.foldl _ (0 * 2 + x) = _
      rw [h0]; exact ih x
    rw [List.foldl_cons, ih, e1, List.length_cons, Nat.pow_succ, Nat.add_mul, Nat.mul_comm (2 ^ l.length) 2, ← Nat.mul_assoc, Nat.add_assoc]
theorem num_cons (x : Nat) (l : List Nat) : num (x :: l) = x * 2 ^ l.length + num l := by
  have h0 : (0 * 2 + x) = x := by omega
  show l.foldl _ (0 * 2 + x) = _
  rw [h0]; exact num_foldl l x
theorem num_mono : ∀ {a b : List Nat}, a.length = b.length → leL a b → num a ≤ num b
  | [], [], _, _ => Nat.le_refl _
  | [], _ :: _, h, _ => by simp at h
  | _ :: _, [], h, _ => by simp at h
  | x :: a, y :: b, h, hl => by
    have h1 : a.length = b.length := by simpa using h
    have h2 := num_mono h1 fun i => by simpa using hl (i + 1)
    have h3 : x ≤ y := by simpa using hl 0
    rw [num_cons, num_cons, h1]
    have := Nat.mul_le_mul_right (2 ^ b.length) h3
    omega
theorem leL.refl (a : List Nat) : leL a a := fun _ => Nat.le_refl _
theorem leL.trans {a b c : List Nat} (h : leL a b) (k : leL b c) : leL a c := fun i => Nat.le_trans (h i) (k i)
theorem leL.anti {a b : List Nat} (hl : a.length = b.length) (h : leL a b) (k : leL b a) : a = b := by
  apply List.ext_getElem? ; intro i
  by_cases hi : i < a.length
  · have hi2 : i < b.length := by omega
    have h1 := h i; have h2 := k i
    rw [List.getElem?_eq_getElem hi, List.getElem?_eq_getElem hi2] at h1 h2 ⊢
    simp at h1 h2
    congr 1; omega
  · rw [List.getElem?_eq_none (by omega), List.getElem?_eq_none (by omega)]
theorem leL.sum : ∀ {a b : List Nat}, a.length = b.length → leL a b → a.sum ≤ b.sum ∧ (a.sum = b.sum → a = b)
  | [], [], _, _ => ⟨Nat.le_refl _, fun _ => rfl⟩
  | [], _ :: _, h, _ => by simp at h
  | _ :: _, [], h, _ => by simp at h
  | x :: a, y :: b, h, hl => by
    have ih := leL.sum (a := a) (b := b) (by simpa using h) fun i => by simpa using hl (i + 1)
    have h3 : x ≤ y := by simpa using hl 0
    simp only [List.sum_cons]
    refine ⟨by omega, fun e => ?_⟩
    have : x = y := by omega
    rw [this, ih.2 (by omega)]
theorem bitl.sum {n : Nat} : ∀ {b : List Nat}, (∀ x ∈ b, x ≤ 1) → b.sum ≤ b.length
  | [], _ => Nat.le_refl _
  | x :: b, h => by
    have := bitl.sum (n := n) (b := b) fun y hy => h y (List.mem_cons_of_mem _ hy)
    have := h x List.mem_cons_self
    simp only [List.sum_cons, List.length_cons]; omega
/-! a way of answering that rises -/
structure Ris (c : Nat) (f : List Nat → List Nat) : Prop where
  bits : ∀ t, bitl c t → bitl c (f t)
  up : ∀ t u, bitl c t → bitl c u → leL t u → leL (f t) (f u)
def iter (f : List Nat → List Nat) (t : List Nat) : Nat → List Nat
  | 0 => t
  | k + 1 => f (iter f t k)
section
variable {c : Nat} {f : List Nat → List Nat} {t : List Nat}
theorem iter_bits (r : Ris c f) (h : bitl c t) : ∀ k, bitl c (iter f t k)
  | 0 => h
  | k + 1 => r.bits _ (iter_bits r h k)
theorem iter_up (r : Ris c f) (h : bitl c t) (h0 : leL t (f t)) : ∀ k, leL (iter f t k) (iter f t (k + 1))
  | 0 => h0
  | k + 1 => r.up _ _ (iter_bits r h k) (iter_bits r h (k + 1)) (iter_up r h h0 k)
theorem iter_down (r : Ris c f) (h : bitl c t) (h0 : leL (f t) t) : ∀ k, leL (iter f t (k + 1)) (iter f t k)
  | 0 => h0
  | k + 1 => r.up _ _ (iter_bits r h (k + 1)) (iter_bits r h k) (iter_down r h h0 k)
theorem iter_stay {N : Nat} (e : iter f t (N + 1) = iter f t N) : ∀ k, iter f t (N + k) = iter f t N
  | 0 => rfl
  | k + 1 => by
    show f (iter f t (N + k)) = _
    rw [iter_stay e k]; exact e
/-- the first turn behind which nothing changes -/
theorem iter_end (r : Ris c f) (h : bitl c t) (h0 : leL t (f t) ∨ leL (f t) t) : ∃ N, N ≤ c ∧ iter f t (N + 1) = iter f t N ∧ ∀ k, k < N → iter f t (k + 1) ≠ iter f t k := by
  have key : ∀ m, (∃ N, N < m ∧ iter f t (N + 1) = iter f t N ∧ ∀ k, k < N → iter f t (k + 1) ≠ iter f t k) ∨ ∀ k, k < m → iter f t (k + 1) ≠ iter f t k := by
    intro m
    induction m with
    | zero => exact .inr fun k hk => by omega
    | succ m ih =>
      rcases ih with ⟨N, h1, h2, h3⟩ | ih
      · exact .inl ⟨N, by omega, h2, h3⟩
      · by_cases e : iter f t (m + 1) = iter f t m
        · exact .inl ⟨m, by omega, e, ih⟩
        · refine .inr fun k hk => ?_
          by_cases hk2 : k = m
          · subst hk2; exact e
          · exact ih k (by omega)
  rcases key (c + 1) with ⟨N, h1, h2, h3⟩ | hn
  · exact ⟨N, by omega, h2, h3⟩
  · exfalso
    have hb := iter_bits r h
    have hlen : ∀ i j, (iter f t i).length = (iter f t j).length := fun i j => by rw [(hb i).1, (hb j).1]
    have top : ∀ k, (iter f t k).sum ≤ c := fun k => by
      have := bitl.sum (n := c) (hb k).2
      rw [(hb k).1] at this; exact this
    rcases h0 with h0 | h0
    · have grow : ∀ k, k ≤ c + 1 → k ≤ (iter f t k).sum := by
        intro k
        induction k with
        | zero => intro _; exact Nat.zero_le _
        | succ k ih =>
          intro hk
          have h1 := leL.sum (hlen k (k + 1)) (iter_up r h h0 k)
          have h2 := ih (by omega)
          have h3 : (iter f t k).sum ≠ (iter f t (k + 1)).sum := fun e => hn k (by omega) (h1.2 e).symm
          omega
      have := grow (c + 1) (Nat.le_refl _)
      have := top (c + 1)
      omega
    · have fall : ∀ k, k ≤ c + 1 → (iter f t k).sum + k ≤ c := by
        intro k
        induction k with
        | zero => intro _; exact top 0
        | succ k ih =>
          intro hk
          have h1 := leL.sum (hlen (k + 1) k) (iter_down r h h0 k)
          have h2 := ih (by omega)
          have h3 : (iter f t (k + 1)).sum ≠ (iter f t k).sum := fun e => hn k (by omega) (h1.2 e)
          omega
      have := fall (c + 1) (Nat.le_refl _)
      omega
end
def zeros (c : Nat) : List Nat := List.replicate c 0
def ones (c : Nat) : List Nat := List.replicate c 1
theorem zeros_bits (c : Nat) : bitl c (zeros c) := ⟨by simp [zeros], by simp [zeros]⟩
theorem ones_bits (c : Nat) : bitl c (ones c) := ⟨by simp [ones], by simp [ones]⟩
theorem zeros_le (c : Nat) (t : List Nat) : leL (zeros c) t := fun i => by
  by_cases h : i < c <;> simp [zeros, List.getElem?_replicate, h]
theorem le_ones {c : Nat} {t : List Nat} (h : bitl c t) : leL t (ones c) := fun i => by
  by_cases hi : i < t.length
  · have := h.2 t[i] (List.getElem_mem hi)
    have hc : i < c := by rw [← h.1]; exact hi
    simpa [ones, List.getElem?_replicate, hi, hc] using this
  · simp [List.getElem?_eq_none (Nat.le_of_not_lt hi)]
/-- the least and the greatest answers that stay -/
def lst0 (c : Nat) (f : List Nat → List Nat) : List Nat := iter f (zeros c) c
def gst1 (c : Nat) (f : List Nat → List Nat) : List Nat := iter f (ones c) c
section
variable {c : Nat} {f : List Nat → List Nat}
theorem lst_end (r : Ris c f) : ∃ N, N ≤ c ∧ iter f (zeros c) (N + 1) = iter f (zeros c) N ∧ (∀ k, k < N → iter f (zeros c) (k + 1) ≠ iter f (zeros c) k) ∧ ∀ k, N ≤ k → iter f (zeros c) k = lst0 c f := by
  obtain ⟨N, h1, h2, h3⟩ := iter_end r (zeros_bits c) (.inl (zeros_le c _))
  refine ⟨N, h1, h2, h3, fun k hk => ?_⟩
  have e1 := iter_stay h2 (k - N)
  have e2 := iter_stay h2 (c - N)
  rw [show N + (k - N) = k by omega] at e1
  rw [show N + (c - N) = c by omega] at e2
  rw [e1, lst0, e2]
theorem gst_end (r : Ris c f) : ∃ N, N ≤ c ∧ iter f (ones c) (N + 1) = iter f (ones c) N ∧ (∀ k, k < N → iter f (ones c) (k + 1) ≠ iter f (ones c) k) ∧ ∀ k, N ≤ k → iter f (ones c) k = gst1 c f := by
  obtain ⟨N, h1, h2, h3⟩ := iter_end r (ones_bits c) (.inr (le_ones (r.bits _ (ones_bits c))))
  refine ⟨N, h1, h2, h3, fun k hk => ?_⟩
  have e1 := iter_stay h2 (k - N)
  have e2 := iter_stay h2 (c - N)
  rw [show N + (k - N) = k by omega] at e1
  rw [show N + (c - N) = c by omega] at e2
  rw [e1, gst1, e2]
theorem lst_fix (r : Ris c f) : f (lst0 c f) = lst0 c f := by
  obtain ⟨N, h1, h2, h3, h4⟩ := lst_end r
  have := h4 (c + 1) (by omega)
  exact this
theorem gst_fix (r : Ris c f) : f (gst1 c f) = gst1 c f := by
  obtain ⟨N, h1, h2, h3, h4⟩ := gst_end r
  exact h4 (c + 1) (by omega)
theorem lst_le (r : Ris c f) {x : List Nat} (hx : bitl c x) (e : f x = x) : leL (lst0 c f) x := by
  have : ∀ k, leL (iter f (zeros c) k) x := by
    intro k
    induction k with
    | zero => exact zeros_le c x
    | succ k ih =>
      have := r.up _ _ (iter_bits r (zeros_bits c) k) hx ih
      rw [e] at this; exact this
  exact this c
theorem gst_ge (r : Ris c f) {x : List Nat} (hx : bitl c x) (e : f x = x) : leL x (gst1 c f) := by
  have : ∀ k, leL x (iter f (ones c) k) := by
    intro k
    induction k with
    | zero => exact le_ones hx
    | succ k ih =>
      have := r.up _ _ hx (iter_bits r (ones_bits c) k) ih
      rw [e] at this; exact this
  exact this c
theorem lst_bits (r : Ris c f) : bitl c (lst0 c f) := iter_bits r (zeros_bits c) c
theorem gst_bits (r : Ris c f) : bitl c (gst1 c f) := iter_bits r (ones_bits c) c
/-- the answers that stay, in order -/
def stays (c : Nat) (f : List Nat → List Nat) : List (List Nat) := (B2 c).filter fun x => f x == x
theorem stays_mem {x : List Nat} : x ∈ stays c f ↔ bitl c x ∧ f x = x := by
  rw [stays, List.mem_filter, B2_mem]; simp
theorem stays_sorted (c : Nat) (f : List Nat → List Nat) : (stays c f).Pairwise fun a b => num a < num b := (B2_sorted c).filter _
theorem stays_head (r : Ris c f) : (stays c f).head? = some (lst0 c f) := by
  have hm : lst0 c f ∈ stays c f := stays_mem.mpr ⟨lst_bits r, lst_fix r⟩
  have hs := stays_sorted c f
  cases e : stays c f with
  | nil => rw [e] at hm; cases hm
  | cons h t =>
    rw [e] at hm hs
    have hh : h ∈ stays c f := by rw [e]; exact List.mem_cons_self
    obtain ⟨h1, h2⟩ := stays_mem.mp hh
    rcases List.mem_cons.mp hm with q | q
    · rw [q]; rfl
    · have a := (List.pairwise_cons.mp hs).1 _ q
      have b := num_mono ((lst_bits r).1.trans h1.1.symm) (lst_le r h1 h2)
      omega
theorem stays_last (r : Ris c f) : (stays c f).getLast? = some (gst1 c f) := by
  have hm : gst1 c f ∈ stays c f := stays_mem.mpr ⟨gst_bits r, gst_fix r⟩
  have hs := stays_sorted c f
  have hne : stays c f ≠ [] := List.ne_nil_of_mem hm
  have e := List.dropLast_concat_getLast hne
  rw [List.getLast?_eq_some_getLast hne]
  congr 1
  have hl : (stays c f).getLast hne ∈ stays c f := List.getLast_mem hne
  obtain ⟨h1, h2⟩ := stays_mem.mp hl
  rw [← e] at hm hs
  rcases List.mem_append.mp hm with q | q
  · have a := (List.pairwise_append.mp hs).2.2 _ q _ (List.mem_singleton.mpr rfl)
    have b := num_mono (h1.1.trans (gst_bits r).1.symm) (gst_ge r h1 h2)
    omega
  · simpa using (List.mem_singleton.mp q).symm
theorem stays_many (r : Ris c f) : 1 < (stays c f).length ↔ lst0 c f ≠ gst1 c f := by
  have hh := stays_head r
  have hl := stays_last r
  constructor
  · intro h e
    have all : ∀ x ∈ stays c f, x = lst0 c f := fun x hx => by
      obtain ⟨h1, h2⟩ := stays_mem.mp hx
      refine (leL.anti ((lst_bits r).1.trans h1.1.symm) (lst_le r h1 h2) ?_).symm
      rw [e]; exact gst_ge r h1 h2
    match hq : stays c f, stays_sorted c f with
    | [], _ => rw [hq] at h; simp at h
    | [_], _ => rw [hq] at h; simp at h
    | a :: b :: l, hs =>
      have := (List.pairwise_cons.mp hs).1 b List.mem_cons_self
      rw [all a (by rw [hq]; simp), all b (by rw [hq]; simp)] at this
      omega
  · intro h
    match hq : stays c f with
    | [] => rw [hq] at hh; simp at hh
    | [a] =>
      rw [hq] at hh hl
      simp at hh hl
      exact absurd (hh.symm.trans hl) h
    | a :: b :: l => simp
end
/-! companies -/
def ansOne (said : List Nat) (c : List Nat × List Nat) : Nat := (c.2[num (c.1.map fun h => (said[h]?).getD 0)]?).getD 0
def ans (cs : List (List Nat × List Nat)) (said : List Nat) : List Nat := cs.map (ansOne said)
def Mono (k : Nat) (rs : List Nat) : Prop := ∀ b c, bitl k b → bitl k c → leL b c → (rs[num b]?).getD 0 ≤ (rs[num c]?).getD 0
structure okCo (m : Nat) (c : List Nat × List Nat) : Prop where
  asc : c.1.Pairwise (· < ·)
  bd : ∀ h ∈ c.1, h < m
  l1 : 1 ≤ c.1.length
  l6 : c.1.length ≤ 6
  rl : c.2.length = 2 ^ c.1.length
  r1 : ∀ r ∈ c.2, r ≤ 1
  mono : Mono c.1.length c.2
structure okH (p : Nat) (cs : List (List Nat × List Nat)) : Prop where
  p1 : 1 ≤ p
  p6 : p ≤ 6
  c1 : 1 ≤ cs.length
  c8 : cs.length ≤ 8
  co : ∀ c ∈ cs, okCo (p + cs.length) c
theorem getD_le {l : List Nat} (h : ∀ x ∈ l, x ≤ 1) (i : Nat) : (l[i]?).getD 0 ≤ 1 := by
  by_cases hi : i < l.length
  · rw [List.getElem?_eq_getElem hi]; exact h _ (List.getElem_mem hi)
  · rw [List.getElem?_eq_none (Nat.le_of_not_lt hi)]; exact Nat.zero_le _
theorem said_bits {said hs : List Nat} (h : ∀ x ∈ said, x ≤ 1) : bitl hs.length (hs.map fun h => (said[h]?).getD 0) :=
  ⟨by simp, fun x hx => by obtain ⟨i, _, rfl⟩ := List.mem_map.mp hx; exact getD_le h i⟩
theorem ans_ris {p : Nat} {cs : List (List Nat × List Nat)} {u : List Nat} (ok : okH p cs) (hu : bitl p u) : Ris cs.length fun t => ans cs (u ++ t) := by
  refine ⟨fun t ht => ⟨by simp [ans], fun x hx => ?_⟩, fun t v ht hv hl i => ?_⟩
  · obtain ⟨c, hc, rfl⟩ := List.mem_map.mp hx
    exact getD_le (ok.co c hc).r1 _
  · have hb : ∀ {t : List Nat}, bitl cs.length t → ∀ x ∈ u ++ t, x ≤ 1 := fun ht x hx => by
      rcases List.mem_append.mp hx with hx | hx
      · exact hu.2 x hx
      · exact ht.2 x hx
    by_cases hi : i < cs.length
    · simp only [ans, List.getElem?_map, List.getElem?_eq_getElem hi, Option.map_some, Option.getD_some, ansOne]
      refine (ok.co _ (List.getElem_mem hi)).mono _ _ (said_bits (hb ht)) (said_bits (hb hv)) fun j => ?_
      simp only [List.getElem?_map]
      cases hj : cs[i].1[j]? with
      | none => simp
      | some h =>
        simp only [Option.map_some, Option.getD_some, List.getElem?_append]
        split
        · exact Nat.le_refl _
        · exact hl _
    · simp [ans, List.getElem?_eq_none (Nat.le_of_not_lt hi)]
/-! one seat more -/
theorem flip : ∀ {n : Nat} {b : List Nat} {j : Nat}, bitl n b → j < n → num b / 2 ^ j % 2 = 0 → ∃ c, bitl n c ∧ num c = num b + 2 ^ j ∧ leL b c
  | 0, _, j, _, hj, _ => by omega
  | n + 1, [], j, h, _, _ => by have := h.1; simp at this
  | n + 1, x :: l, j, h, hj, h0 => by
    have hl : bitl n l := ⟨by have := h.1; simpa using this, fun y hy => h.2 y (List.mem_cons_of_mem _ hy)⟩
    have hx := h.2 x List.mem_cons_self
    have hlt := num_lt hl
    rw [num_cons, hl.1] at h0 ⊢
    by_cases hjn : j = n
    · subst hjn
      have e : (x * 2 ^ j + num l) / 2 ^ j = x := by
        rw [Nat.mul_comm, Nat.mul_add_div (Nat.two_pow_pos j), Nat.div_eq_of_lt hlt]; omega
      rw [e] at h0
      have hx0 : x = 0 := by omega
      subst hx0
      refine ⟨1 :: l, ⟨by simp [hl.1], fun y hy => ?_⟩, by rw [num_cons, hl.1]; omega, fun i => ?_⟩
      · rcases List.mem_cons.mp hy with rfl | hy
        · omega
        · exact hl.2 y hy
      · cases i <;> simp
    · have hj' : j < n := by omega
      have e : x * 2 ^ n + num l = 2 ^ j * (x * 2 ^ (n - j)) + num l := by
        rw [Nat.mul_left_comm, ← Nat.pow_add, show j + (n - j) = n by omega]
      have e2 : (x * 2 ^ n + num l) / 2 ^ j = x * 2 ^ (n - j) + num l / 2 ^ j := by
        rw [e, Nat.mul_add_div (Nat.two_pow_pos j)]
      have e3 : x * 2 ^ (n - j) = 2 * (x * 2 ^ (n - j - 1)) := by
        rw [Nat.mul_left_comm, ← Nat.pow_succ', show (n - j - 1).succ = n - j by omega]
      rw [e2, e3] at h0
      have h1 : num l / 2 ^ j % 2 = 0 := by omega
      obtain ⟨c, hc1, hc2, hc3⟩ := flip hl hj' h1
      refine ⟨x :: c, ⟨by simp [hc1.1], fun y hy => ?_⟩, by rw [num_cons, hc1.1, hc2]; omega, fun i => ?_⟩
      · rcases List.mem_cons.mp hy with rfl | hy
        · exact hx
        · exact hc1.2 y hy
      · cases i with
        | zero => simp
        | succ i => simpa using hc3 i
theorem mono_step {k : Nat} {rs : List Nat} (m : Mono k rs) (hl : rs.length = 2 ^ k) {j a : Nat} (hj : j < k) (ha : a < 2 ^ k) (h0 : a / 2 ^ j % 2 = 0) : a + 2 ^ j < 2 ^ k ∧ (rs[a]?).getD 0 ≤ (rs[a + 2 ^ j]?).getD 0 := by
  have hb : a < (B2 k).length := by rw [B2_len]; exact ha
  have hbm := B2_mem.mp (List.getElem_mem hb)
  have hn : num (B2 k)[a] = a := by
    have e := congrArg (fun l => l[a]?) (B2_num k)
    simp only [List.getElem?_map, List.getElem?_eq_getElem hb, Option.map_some, List.getElem?_range ha] at e
    exact Option.some.inj e
  obtain ⟨c, hc1, hc2, hc3⟩ := flip hbm hj (by rw [hn]; exact h0)
  rw [hn] at hc2
  have := m _ _ hbm hc1 hc3
  rw [hn, hc2] at this
  exact ⟨by rw [← hc2]; exact num_lt hc1, this⟩
/-- a rule made of a rising test of the ballots -/
theorem mono_map {k : Nat} {f : List Nat → Nat} (h : ∀ b c, bitl k b → bitl k c → leL b c → f b ≤ f c) : Mono k ((B2 k).map f) := by
  intro b c hb hc hl
  simp only [List.getElem?_map, B2_at hb, B2_at hc, Option.map_some, Option.getD_some]
  exact h b c hb hc hl
end K81

namespace K81
open OE PySem PySem.Spec PyProof.Rows L2

/-! canonical trees -/
abbrev LN (l : List Nat) : D := .lst false (l.map fun x : Nat => D.int (x : Nat))
@[simp] theorem share_LN (o : Bool) (l : List Nat) : share (.lst o (l.map fun x : Nat => D.int (x : Nat))) = LN l := by
  have := share_LI o (l.map fun x : Nat => (x : Int))
  simp only [LI, List.map_map, Function.comp_def] at this
  exact this
@[simp] theorem noOwn_LN (l : List Nat) : noOwn (LN l) = true := by
  have := noOwn_LI (l.map fun x : Nat => (x : Int))
  simp only [LI, List.map_map, Function.comp_def] at this
  exact this
theorem allNo_nats (l : List Nat) : (l.map fun x : Nat => D.int (x : Nat)).all noOwn = true := by rw [List.all_map]; simp [ev, evs, evA, evAnd, evOr, evI, ex, exs, runF, shP, getV, getP, place, isTys, isTy, outsOf, List.range_succ, fillA, backA, hasBw, cmpD, binD, bltD, bLen, ixv, subD, wipeD, bindT, bindMany, seqD, putD, putI, backD, isLstAt, setP, cStep, fStep, Function.comp_def]
abbrev T2 (k : Nat) : D := .lst false (List.replicate k (.int 2))
@[simp] theorem share_T2 (o : Bool) (k : Nat) : share (.lst o (List.replicate k (.int 2))) = T2 k := by
  show D.lst false (share.shareL _) = _
  rw [shareL_map, List.map_replicate]; rfl
theorem T2_LN (k : Nat) : T2 k = LN (List.replicate k 2) := by simp [ev, evs, evA, evAnd, evOr, evI, ex, exs, runF, shP, getV, getP, place, isTys, isTy, outsOf, List.range_succ, fillA, backA, hasBw, cmpD, binD, bltD, bLen, ixv, subD, wipeD, bindT, bindMany, seqD, putD, putI, backD, isLstAt, setP, cStep, fStep, Function.comp_def, T2, LN, List.map_replicate]
abbrev dCo (c : List Nat × List Nat) : D := .tup [LN c.1, LN c.2]
@[simp] theorem share_dCo (c : List Nat × List Nat) : share (dCo c) = dCo c := by rw [share_pair, share_LN, share_LN]
abbrev dCos (cs : List (List Nat × List Nat)) : D := .lst false (cs.map dCo)
@[simp] theorem share_dCos (o : Bool) (cs : List (List Nat × List Nat)) : share (.lst o (cs.map dCo)) = dCos cs := by
  show D.lst false (share.shareL _) = _
  rw [shareL_map, List.map_map]
  exact congrArg _ (List.map_congr_left fun c _ => share_dCo c)
@[simp] theorem noOwn_dCo (c : List Nat × List Nat) : noOwn (dCo c) = true := by simp [ev, evs, evA, evAnd, evOr, evI, ex, exs, runF, shP, getV, getP, place, isTys, isTy, outsOf, List.range_succ, fillA, backA, hasBw, cmpD, binD, bltD, bLen, ixv, subD, wipeD, bindT, bindMany, seqD, putD, putI, backD, isLstAt, setP, cStep, fStep, Function.comp_def, noOwn_pair]
@[simp] theorem noOwn_dCos (cs : List (List Nat × List Nat)) : noOwn (dCos cs) = true := by
  simp only [dCos, noOwn, Bool.not_false, Bool.true_and, noOwnL_all, List.all_map]
  simp [ev, evs, evA, evAnd, evOr, evI, ex, exs, runF, shP, getV, getP, place, isTys, isTy, outsOf, List.range_succ, fillA, backA, hasBw, cmpD, binD, bltD, bLen, ixv, subD, wipeD, bindT, bindMany, seqD, putD, putI, backD, isLstAt, setP, cStep, fStep, Function.comp_def]
abbrev cH (p : Nat) (cs : List (List Nat × List Nat)) : D := .tup [.int (p : Nat), dCos cs]
@[simp] theorem share_cH (p : Nat) (cs : List (List Nat × List Nat)) : share (cH p cs) = cH p cs := by rw [share_pair, share_dCos]; rfl
theorem flat_rep (k : Nat) (x : D) : (List.replicate k [x]).flatten = List.replicate k x := by
  induction k with
  | zero => rfl
  | succ k ih => rw [List.replicate_succ, List.flatten_cons, ih]; rfl
theorem repOk_one {x : D} (hx : noOwn x = true) (k : Nat) (hk : k ≤ 1000000) : repOk [x] (k : Nat) = true := by
  unfold repOk
  rw [Bool.and_eq_true, Bool.and_eq_true, Bool.and_eq_true, chk_iff, chk_iff, chk_iff]
  refine ⟨⟨⟨by simp [ev, evs, evA, evAnd, evOr, evI, ex, exs, runF, shP, getV, getP, place, isTys, isTy, outsOf, List.range_succ, fillA, backA, hasBw, cmpD, binD, bltD, bLen, ixv, subD, wipeD, bindT, bindMany, seqD, putD, putI, backD, isLstAt, setP, cStep, fStep, Function.comp_def, hx], by omega⟩, by omega⟩, le_lim (by simpa [ev, evs, evA, evAnd, evOr, evI, ex, exs, runF, shP, getV, getP, place, isTys, isTy, outsOf, List.range_succ, fillA, backA, hasBw, cmpD, binD, bltD, bLen, ixv, subD, wipeD, bindT, bindMany, seqD, putD, putI, backD, isLstAt, setP, cStep, fStep, Function.comp_def] using hk)⟩
theorem any_cast (i : Nat) (l : List Nat) : (l.map fun x : Nat => (x : Int)).any (· == (i : Int)) = decide (i ∈ l) := by
  induction l with
  | nil => rfl
  | cons a l ih =>
    rw [List.map_cons, List.any_cons, ih]
    by_cases h : i = a
    · subst h; simp [ev, evs, evA, evAnd, evOr, evI, ex, exs, runF, shP, getV, getP, place, isTys, isTy, outsOf, List.range_succ, fillA, backA, hasBw, cmpD, binD, bltD, bLen, ixv, subD, wipeD, bindT, bindMany, seqD, putD, putI, backD, isLstAt, setP, cStep, fStep, Function.comp_def]
    · have : ((a : Int) == (i : Int)) = false := by rw [beq_eq_false_iff_ne]; omega
      simp [ev, evs, evA, evAnd, evOr, evI, ex, exs, runF, shP, getV, getP, place, isTys, isTy, outsOf, List.range_succ, fillA, backA, hasBw, cmpD, binD, bltD, bLen, ixv, subD, wipeD, bindT, bindMany, seqD, putD, putI, backD, isLstAt, setP, cStep, fStep, Function.comp_def, this, h]
theorem filterMap_none (α : Type) (l : List α) : l.filterMap (fun _ => (none : Option D)) = [] := by simp [ev, evs, evA, evAnd, evOr, evI, ex, exs, runF, shP, getV, getP, place, isTys, isTy, outsOf, List.range_succ, fillA, backA, hasBw, cmpD, binD, bltD, bLen, ixv, subD, wipeD, bindT, bindMany, seqD, putD, putI, backD, isLstAt, setP, cStep, fStep, Function.comp_def]
/-! kinds -/
theorem is_whole_ok (n : Nat) (i : Int) : evF prog (n + 1) 0 [.int i] = some (.bl true, [.hole]) := by
  show runF (evF prog n) F.is_whole [.int i] = _
  simp [ev, evs, evA, evAnd, evOr, evI, ex, exs, runF, shP, getV, getP, place, isTys, isTy, outsOf, List.range_succ, fillA, backA, hasBw, cmpD, binD, bltD, bLen, ixv, subD, wipeD, bindT, bindMany, seqD, putD, putI, backD, isLstAt, setP, cStep, fStep, Function.comp_def, F.is_whole]
theorem is_count_ok (n : Nat) (i : Nat) : evF prog (n + 2) 1 [.int (i : Nat)] = some (.bl true, [.hole]) := by
  show runF (evF prog (n + 1)) F.is_count [_] = _
  simp [ev, evs, evA, evAnd, evOr, evI, ex, exs, runF, shP, getV, getP, place, isTys, isTy, outsOf, List.range_succ, fillA, backA, hasBw, cmpD, binD, bltD, bLen, ixv, subD, wipeD, bindT, bindMany, seqD, putD, putI, backD, isLstAt, setP, cStep, fStep, Function.comp_def, F.is_count, is_whole_ok]
theorem is_asc_ok (n : Nat) {v : D} {hs : List Nat} {m : Nat} (hv : share v = LN hs) (asc : hs.Pairwise (· < ·)) (bd : ∀ h ∈ hs, h < m) (hl : hs.length ≤ 1000000) : evF prog (n + 3) 11 [v, .int (m : Nat)] = some (.bl true, [.hole, .hole]) := by
  have c1 : ev (evF prog (n + 2)) [] F.is_ascending.c1 [LN hs, .int (m : Nat), .hole, .hole] = some (.lst true [], [LN hs, .int (m : Nat), .hole, .hole]) := by
    refine (comp_filt (env1 := [LN hs, .int (m : Nat), .hole, .hole]) (r := none) (xs := hs) (fun x : Nat => D.int (x : Nat)) (fun _ => none) ?_ fun x hx => ?_).trans ?_
    · simp [ev, evs, evA, evAnd, evOr, evI, ex, exs, runF, shP, getV, getP, place, isTys, isTy, outsOf, List.range_succ, fillA, backA, hasBw, cmpD, binD, bltD, bLen, ixv, subD, wipeD, bindT, bindMany, seqD, putD, putI, backD, isLstAt, setP, cStep, fStep, Function.comp_def]
    · have h1 : ¬ ((m : Int) ≤ (x : Int)) := by have := bd x hx; omega
      simp [ev, evs, evA, evAnd, evOr, evI, ex, exs, runF, shP, getV, getP, place, isTys, isTy, outsOf, List.range_succ, fillA, backA, hasBw, cmpD, binD, bltD, bLen, ixv, subD, wipeD, bindT, bindMany, seqD, putD, putI, backD, isLstAt, setP, cStep, fStep, Function.comp_def, is_count_ok, h1, bd x hx]
    · simp [ev, evs, evA, evAnd, evOr, evI, ex, exs, runF, shP, getV, getP, place, isTys, isTy, outsOf, List.range_succ, fillA, backA, hasBw, cmpD, binD, bltD, bLen, ixv, subD, wipeD, bindT, bindMany, seqD, putD, putI, backD, isLstAt, setP, cStep, fStep, Function.comp_def]
  have c2 : ev (evF prog (n + 2)) [] F.is_ascending.c2 [LN hs, .int (m : Nat), .hole, .hole] = some (.lst true [], [LN hs, .int (m : Nat), .hole, .hole]) := by
    refine (comp_filt (env1 := [LN hs, .int (m : Nat), .hole, .hole]) (r := none) (xs := List.range (hs.length - 1)) (fun i : Nat => D.int ((i : Int) + 1)) (fun _ => none) ?_ fun i hi => ?_).trans ?_
    · simp [ev, evs, evA, evAnd, evOr, evI, ex, exs, runF, shP, getV, getP, place, isTys, isTy, outsOf, List.range_succ, fillA, backA, hasBw, cmpD, binD, bltD, bLen, ixv, subD, wipeD, bindT, bindMany, seqD, putD, putI, backD, isLstAt, setP, cStep, fStep, Function.comp_def, rngs_one _ hl]
    · rw [List.mem_range] at hi
      have h1 : hs[i]? = some hs[i] := List.getElem?_eq_getElem (by omega)
      have h2 : hs[i + 1]? = some hs[i + 1] := List.getElem?_eq_getElem (by omega)
      have h3 := List.pairwise_iff_getElem.mp asc i (i + 1) (by omega) (by omega) (by omega)
      have h4 : ¬ hs[i + 1] ≤ hs[i] := by omega
      simp [ev, evs, evA, evAnd, evOr, evI, ex, exs, runF, shP, getV, getP, place, isTys, isTy, outsOf, List.range_succ, fillA, backA, hasBw, cmpD, binD, bltD, bLen, ixv, subD, wipeD, bindT, bindMany, seqD, putD, putI, backD, isLstAt, setP, cStep, fStep, Function.comp_def, atI_succ, h1, h2, h4]
    · simp [ev, evs, evA, evAnd, evOr, evI, ex, exs, runF, shP, getV, getP, place, isTys, isTy, outsOf, List.range_succ, fillA, backA, hasBw, cmpD, binD, bltD, bLen, ixv, subD, wipeD, bindT, bindMany, seqD, putD, putI, backD, isLstAt, setP, cStep, fStep, Function.comp_def]
  show runF (evF prog (n + 2)) F.is_ascending [_, _] = _
  simp [ev, evs, evA, evAnd, evOr, evI, ex, exs, runF, shP, getV, getP, place, isTys, isTy, outsOf, List.range_succ, fillA, backA, hasBw, cmpD, binD, bltD, bLen, ixv, subD, wipeD, bindT, bindMany, seqD, putD, putI, backD, isLstAt, setP, cStep, fStep, Function.comp_def, F.is_ascending, hv, c1, c2]
theorem count_ok (n : Nat) {v : D} {k : Nat} (hv : share v = .tup [T2 k, .int 2]) (hk : k ≤ 100) : evF prog (n + 1) 3 [v] = some (.int ((2 ^ k : Nat) : Nat), [.hole]) := by
  obtain ⟨env', e, x, rfl⟩ := for_rel (Γ := evF prog n) (ios := []) (tg := .nm 2) (body := F.count_of.b1) (it := .e (.pk 0 [.n 0])) (env := [.tup [T2 k, .int 2], .int 1, .hole]) (env1 := [.tup [T2 k, .int 2], .int 1, .hole]) (r := none) (xs := List.replicate k 2) (fun i : Int => D.int i)
    (fun j env => ∃ x, env = [.tup [T2 k, .int 2], .int ((2 ^ j : Nat) : Nat), x]) (by simp [ev, evs, evA, evAnd, evOr, evI, ex, exs, runF, shP, getV, getP, place, isTys, isTy, outsOf, List.range_succ, fillA, backA, hasBw, cmpD, binD, bltD, bLen, ixv, subD, wipeD, bindT, bindMany, seqD, putD, putI, backD, isLstAt, setP, cStep, fStep, Function.comp_def, T2_LN, List.map_replicate]) ⟨.hole, by simp [ev, evs, evA, evAnd, evOr, evI, ex, exs, runF, shP, getV, getP, place, isTys, isTy, outsOf, List.range_succ, fillA, backA, hasBw, cmpD, binD, bltD, bLen, ixv, subD, wipeD, bindT, bindMany, seqD, putD, putI, backD, isLstAt, setP, cStep, fStep, Function.comp_def]⟩ (by
      rintro j env x hx ⟨y, rfl⟩
      obtain ⟨hj, hx2⟩ := List.getElem?_eq_some_iff.mp hx
      simp only [List.length_replicate] at hj
      simp only [List.getElem_replicate] at hx2
      subst hx2
      have hm : mulOk ((2 ^ j : Nat) : Nat) 2 = true := mulOk_of (j + 1) 2 (by rw [Int.natAbs_natCast, Nat.pow_succ]; have := Nat.two_pow_pos j; omega) (by decide) (by omega)
      refine ⟨_, ?_, .int 2, rfl⟩
      simp [ev, evs, evA, evAnd, evOr, evI, ex, exs, runF, shP, getV, getP, place, isTys, isTy, outsOf, List.range_succ, fillA, backA, hasBw, cmpD, binD, bltD, bLen, ixv, subD, wipeD, bindT, bindMany, seqD, putD, putI, backD, isLstAt, setP, cStep, fStep, Function.comp_def] at hm
      simp [ev, evs, evA, evAnd, evOr, evI, ex, exs, runF, shP, getV, getP, place, isTys, isTy, outsOf, List.range_succ, fillA, backA, hasBw, cmpD, binD, bltD, bLen, ixv, subD, wipeD, bindT, bindMany, seqD, putD, putI, backD, isLstAt, setP, cStep, fStep, Function.comp_def, F.count_of.b1, hm, Nat.pow_succ])
  simp only [List.length_replicate] at e
  have e' : ex (evF prog n) [] F.count_of.l1 [.tup [T2 k, .int 2], .int 1, .hole] = _ := e
  show runF (evF prog n) F.count_of [_] = _
  simp [ev, evs, evA, evAnd, evOr, evI, ex, exs, runF, shP, getV, getP, place, isTys, isTy, outsOf, List.range_succ, fillA, backA, hasBw, cmpD, binD, bltD, bLen, ixv, subD, wipeD, bindT, bindMany, seqD, putD, putI, backD, isLstAt, setP, cStep, fStep, Function.comp_def, F.count_of, hv, e']
theorem is_rule_ok (n : Nat) {v w : D} {k : Nat} {rs : List Nat} (hv : share v = .tup [T2 k, .int 2]) (hw : share w = LN rs) (hk : k ≤ 100) (hl : rs.length = 2 ^ k) (h1 : ∀ r ∈ rs, r ≤ 1) : evF prog (n + 3) 2 [v, w] = some (.bl true, [.hole, .hole]) := by
  have c1 : ev (evF prog (n + 2)) [] F.is_rule_of.c1 [.tup [T2 k, .int 2], LN rs, .hole] = some (.lst true [], [.tup [T2 k, .int 2], LN rs, .hole]) := by
    refine (comp_filt (env1 := [.tup [T2 k, .int 2], LN rs, .hole]) (r := none) (xs := rs) (fun x : Nat => D.int (x : Nat)) (fun _ => none) ?_ fun x hx => ?_).trans ?_
    · simp [ev, evs, evA, evAnd, evOr, evI, ex, exs, runF, shP, getV, getP, place, isTys, isTy, outsOf, List.range_succ, fillA, backA, hasBw, cmpD, binD, bltD, bLen, ixv, subD, wipeD, bindT, bindMany, seqD, putD, putI, backD, isLstAt, setP, cStep, fStep, Function.comp_def]
    · have h2 : ¬ ((2 : Int) ≤ (x : Int)) := by have := h1 x hx; omega
      simp [ev, evs, evA, evAnd, evOr, evI, ex, exs, runF, shP, getV, getP, place, isTys, isTy, outsOf, List.range_succ, fillA, backA, hasBw, cmpD, binD, bltD, bLen, ixv, subD, wipeD, bindT, bindMany, seqD, putD, putI, backD, isLstAt, setP, cStep, fStep, Function.comp_def, is_count_ok, h2]
    · simp [ev, evs, evA, evAnd, evOr, evI, ex, exs, runF, shP, getV, getP, place, isTys, isTy, outsOf, List.range_succ, fillA, backA, hasBw, cmpD, binD, bltD, bLen, ixv, subD, wipeD, bindT, bindMany, seqD, putD, putI, backD, isLstAt, setP, cStep, fStep, Function.comp_def]
  have hc := count_ok (n + 1) (v := .tup [T2 k, .int 2]) (k := k) (by rw [share_pair, share_T2]; rfl) hk
  rw [← hl] at hc
  show runF (evF prog (n + 2)) F.is_rule_of [_, _] = _
  simp [ev, evs, evA, evAnd, evOr, evI, ex, exs, runF, shP, getV, getP, place, isTys, isTy, outsOf, List.range_succ, fillA, backA, hasBw, cmpD, binD, bltD, bLen, ixv, subD, wipeD, bindT, bindMany, seqD, putD, putI, backD, isLstAt, setP, cStep, fStep, Function.comp_def, F.is_rule_of, hv, hw, hc, c1]
theorem rises_ok (n : Nat) {v w : D} {k : Nat} {rs : List Nat} (hv : share v = .tup [T2 k, .int 2]) (hw : share w = LN rs) (hk : k ≤ 100) (hl : rs.length = 2 ^ k) (m : Mono k rs) : evF prog (n + 1) 8 [v, w] = some (.bl true, [.hole, .hole]) := by
  have inner : ∀ (j : Nat) (a b : D), j < k → ∃ a' b', ex (evF prog n) [] F.rises_by_steps.l1 [.tup [T2 k, .int 2], LN rs, .int ((2 ^ j : Nat) : Nat), .int 2, a, b] = some (.nx [.tup [T2 k, .int 2], LN rs, .int ((2 ^ j : Nat) : Nat), .int 2, a', b']) := fun j a b hj => by
    obtain ⟨env', e, a', b', rfl⟩ := for_rel (Γ := evF prog n) (ios := []) (tg := .tp [4, 5]) (body := F.rises_by_steps.b1) (it := .enum (.sh 1)) (env := [.tup [T2 k, .int 2], LN rs, .int ((2 ^ j : Nat) : Nat), .int 2, a, b]) (env1 := [.tup [T2 k, .int 2], LN rs, .int ((2 ^ j : Nat) : Nat), .int 2, a, b]) (r := none) (xs := rs.zipIdx) (fun p : Nat × Nat => D.tup [.int (p.2 : Nat), .int (p.1 : Nat)])
      (fun _ env => ∃ a' b', env = [.tup [T2 k, .int 2], LN rs, .int ((2 ^ j : Nat) : Nat), .int 2, a', b']) (by simp [ev, evs, evA, evAnd, evOr, evI, ex, exs, runF, shP, getV, getP, place, isTys, isTy, outsOf, List.range_succ, fillA, backA, hasBw, cmpD, binD, bltD, bLen, ixv, subD, wipeD, bindT, bindMany, seqD, putD, putI, backD, isLstAt, setP, cStep, fStep, Function.comp_def, enumD_map]) ⟨a, b, rfl⟩ (by
        rintro q env ⟨x, i⟩ hx ⟨a', b', rfl⟩
        have hi := List.mem_zipIdx_iff_getElem?.mp (List.mem_of_getElem? hx)
        simp only at hi
        have hlt : i < 2 ^ k := by rw [← hl]; exact (List.getElem?_eq_some_iff.mp hi).1
        have hdv : divOk ((2 ^ j : Nat) : Nat) = true := by
          have := Nat.two_pow_pos j
          simp only [divOk, Bool.and_eq_true, decide_eq_true_eq, chk_iff]
          refine ⟨by omega, ?_⟩
          rw [Int.natAbs_natCast, Nat.log2_two_pow]; omega
        have ediv : ((i : Nat) : Int) / ((2 ^ j : Nat) : Int) % 2 = ((i / 2 ^ j % 2 : Nat) : Int) := by simp [ev, evs, evA, evAnd, evOr, evI, ex, exs, runF, shP, getV, getP, place, isTys, isTy, outsOf, List.range_succ, fillA, backA, hasBw, cmpD, binD, bltD, bLen, ixv, subD, wipeD, bindT, bindMany, seqD, putD, putI, backD, isLstAt, setP, cStep, fStep, Function.comp_def]
        refine ⟨_, ?_, .int i, .int x, rfl⟩
        have hms := fun h0 => mono_step m hl hj hlt h0
        generalize 2 ^ j = sj at *
        by_cases h0 : i / sj % 2 = 0
        · obtain ⟨s1, s2⟩ := hms h0
          have g1 : rs[i + sj]? = some rs[i + sj] := List.getElem?_eq_getElem (by omega)
          rw [hi, g1] at s2
          simp only [Option.getD_some] at s2
          have hat : L2.atI (rs.map fun x : Nat => D.int (x : Nat)) ((i : Int) + (sj : Int)) = some (.int (rs[i + sj] : Nat)) := by
            rw [← Int.natCast_add, OE.atI_nat]; simp [ev, evs, evA, evAnd, evOr, evI, ex, exs, runF, shP, getV, getP, place, isTys, isTy, outsOf, List.range_succ, fillA, backA, hasBw, cmpD, binD, bltD, bLen, ixv, subD, wipeD, bindT, bindMany, seqD, putD, putI, backD, isLstAt, setP, cStep, fStep, Function.comp_def, g1]
          have hng2 : ¬ rs[i + sj] < x := by omega
          simp only [fStep, bindT, putI, bindMany, List.nil_append, List.not_mem_nil, if_false, Option.bind_some, F.rises_by_steps.b1, List.set, exs, ex, ev, evAnd, getV, List.getElem?_cons_zero, List.getElem?_cons_succ, Option.map_some, share_int, share_LN, binD, hdv, if_true, cmpD, Option.bind_some, ediv, h0, subD, hat]
          simp [ev, evs, evA, evAnd, evOr, evI, ex, exs, runF, shP, getV, getP, place, isTys, isTy, outsOf, List.range_succ, fillA, backA, hasBw, cmpD, binD, bltD, bLen, ixv, subD, wipeD, bindT, bindMany, seqD, putD, putI, backD, isLstAt, setP, cStep, fStep, Function.comp_def, hat, hng2]
        · have h1 : i / sj % 2 = 1 := by omega
          simp only [fStep, bindT, putI, bindMany, List.nil_append, List.not_mem_nil, if_false, Option.bind_some, F.rises_by_steps.b1, List.set, exs, ex, ev, evAnd, getV, List.getElem?_cons_zero, List.getElem?_cons_succ, Option.map_some, share_int, share_LN, binD, hdv, if_true, cmpD, Option.bind_some, ediv, h1]
          simp [ev, evs, evA, evAnd, evOr, evI, ex, exs, runF, shP, getV, getP, place, isTys, isTy, outsOf, List.range_succ, fillA, backA, hasBw, cmpD, binD, bltD, bLen, ixv, subD, wipeD, bindT, bindMany, seqD, putD, putI, backD, isLstAt, setP, cStep, fStep, Function.comp_def])
    exact ⟨a', b', e⟩
  obtain ⟨env', e, s, z, a, b, rfl, hs⟩ := for_rel (Γ := evF prog n) (ios := []) (tg := .nm 3) (body := F.rises_by_steps.b2) (it := .e (.pk 0 [.n 0])) (env := [.tup [T2 k, .int 2], LN rs, .int (rs.length : Nat), .hole, .hole, .hole]) (env1 := [.tup [T2 k, .int 2], LN rs, .int (rs.length : Nat), .hole, .hole, .hole]) (r := none) (xs := List.replicate k 2) (fun i : Int => D.int i)
    (fun j env => ∃ (s : Nat) (z a b : D), env = [.tup [T2 k, .int 2], LN rs, .int (s : Nat), z, a, b] ∧ s = 2 ^ (k - j)) (by simp [ev, evs, evA, evAnd, evOr, evI, ex, exs, runF, shP, getV, getP, place, isTys, isTy, outsOf, List.range_succ, fillA, backA, hasBw, cmpD, binD, bltD, bLen, ixv, subD, wipeD, bindT, bindMany, seqD, putD, putI, backD, isLstAt, setP, cStep, fStep, Function.comp_def, List.map_replicate]) ⟨rs.length, .hole, .hole, .hole, rfl, by rw [hl]; simp [ev, evs, evA, evAnd, evOr, evI, ex, exs, runF, shP, getV, getP, place, isTys, isTy, outsOf, List.range_succ, fillA, backA, hasBw, cmpD, binD, bltD, bLen, ixv, subD, wipeD, bindT, bindMany, seqD, putD, putI, backD, isLstAt, setP, cStep, fStep, Function.comp_def]⟩ (by
      rintro j env x hx ⟨s, z, a, b, rfl, rfl⟩
      obtain ⟨hj, hx2⟩ := List.getElem?_eq_some_iff.mp hx
      simp only [List.length_replicate] at hj
      simp only [List.getElem_replicate] at hx2
      subst hx2
      have hs : 2 ^ (k - j) / 2 = 2 ^ (k - (j + 1)) := by
        rw [show k - j = (k - (j + 1)) + 1 by omega, Nat.pow_succ]; omega
      have hs2 : ((2 ^ (k - j) : Nat) : Int) / 2 = ((2 ^ (k - (j + 1)) : Nat) : Int) := by rw [← hs]; simp [ev, evs, evA, evAnd, evOr, evI, ex, exs, runF, shP, getV, getP, place, isTys, isTy, outsOf, List.range_succ, fillA, backA, hasBw, cmpD, binD, bltD, bLen, ixv, subD, wipeD, bindT, bindMany, seqD, putD, putI, backD, isLstAt, setP, cStep, fStep, Function.comp_def]
      have d2 : divOk 2 = true := by simp [ev, evs, evA, evAnd, evOr, evI, ex, exs, runF, shP, getV, getP, place, isTys, isTy, outsOf, List.range_succ, fillA, backA, hasBw, cmpD, binD, bltD, bLen, ixv, subD, wipeD, bindT, bindMany, seqD, putD, putI, backD, isLstAt, setP, cStep, fStep, Function.comp_def, divOk, chk_iff]; decide
      obtain ⟨a', b', e⟩ := inner (k - (j + 1)) a b (by omega)
      refine ⟨_, ?_, 2 ^ (k - (j + 1)), .int 2, a', b', rfl, rfl⟩
      simp only [fStep, bindT, putI, List.nil_append, List.not_mem_nil, if_false, Option.bind_some, F.rises_by_steps.b2, List.set, exs, ex, ev, getV, List.getElem?_cons_zero, List.getElem?_cons_succ, Option.map_some, share_int, binD, d2, if_true, hs2, e])
  have e' : ex (evF prog n) [] F.rises_by_steps.l2 [.tup [T2 k, .int 2], LN rs, .int (rs.length : Nat), .hole, .hole, .hole] = _ := e
  show runF (evF prog n) F.rises_by_steps [_, _] = _
  simp [ev, evs, evA, evAnd, evOr, evI, ex, exs, runF, shP, getV, getP, place, isTys, isTy, outsOf, List.range_succ, fillA, backA, hasBw, cmpD, binD, bltD, bLen, ixv, subD, wipeD, bindT, bindMany, seqD, putD, putI, backD, isLstAt, setP, cStep, fStep, Function.comp_def, F.rises_by_steps, hv, hw, e']
end K81

namespace K81
open OE PySem PySem.Spec PyProof.Rows L2

theorem fall_none (n : Nat) {v w : D} {k : Nat} {rs : List Nat} (hv : share v = .tup [T2 k, .int 2]) (hw : share w = LN rs) (hk : k ≤ 100) (hl : rs.length = 2 ^ k) (m : Mono k rs) : evF prog (n + 3) 10 [v, w] = some (.non, [.hole, .hole]) := by
  have r1 := rises_ok n (v := .tup [T2 k, .int 2]) (w := LN rs) (by rw [share_pair, share_T2]; rfl) (by simp [ev, evs, evA, evAnd, evOr, evI, ex, exs, runF, shP, getV, getP, place, isTys, isTy, outsOf, List.range_succ, fillA, backA, hasBw, cmpD, binD, bltD, bLen, ixv, subD, wipeD, bindT, bindMany, seqD, putD, putI, backD, isLstAt, setP, cStep, fStep, Function.comp_def]) hk hl m
  have r2 : evF prog (n + 2) 9 [.tup [T2 k, .int 2], .non, LN rs] = some (.non, [.hole, .hole, .hole]) := by
    show runF (evF prog (n + 1)) F.fall_of [_, _, _] = _
    simp [ev, evs, evA, evAnd, evOr, evI, ex, exs, runF, shP, getV, getP, place, isTys, isTy, outsOf, List.range_succ, fillA, backA, hasBw, cmpD, binD, bltD, bLen, ixv, subD, wipeD, bindT, bindMany, seqD, putD, putI, backD, isLstAt, setP, cStep, fStep, Function.comp_def, F.fall_of, r1]
  show runF (evF prog (n + 2)) F.first_fall_of [_, _] = _
  simp [ev, evs, evA, evAnd, evOr, evI, ex, exs, runF, shP, getV, getP, place, isTys, isTy, outsOf, List.range_succ, fillA, backA, hasBw, cmpD, binD, bltD, bLen, ixv, subD, wipeD, bindT, bindMany, seqD, putD, putI, backD, isLstAt, setP, cStep, fStep, Function.comp_def, F.first_fall_of, hv, hw, r2]
theorem company_ok (n : Nat) {v : D} {m : Nat} {c : List Nat × List Nat} (hv : share v = dCo c) (ok : okCo m c) : evF prog (n + 4) 12 [.int (m : Nat), v] = some (.bl true, [.hole, .hole]) := by
  have l1 := ok.l1
  have l6 := ok.l6
  have a1 := is_asc_ok n (v := LN c.1) (hs := c.1) (by simp [ev, evs, evA, evAnd, evOr, evI, ex, exs, runF, shP, getV, getP, place, isTys, isTy, outsOf, List.range_succ, fillA, backA, hasBw, cmpD, binD, bltD, bLen, ixv, subD, wipeD, bindT, bindMany, seqD, putD, putI, backD, isLstAt, setP, cStep, fStep, Function.comp_def]) ok.asc ok.bd (by omega)
  have a2 := is_rule_ok n (v := .tup [T2 c.1.length, .int 2]) (w := LN c.2) (k := c.1.length) (by rw [share_pair, share_T2]; rfl) (by simp [ev, evs, evA, evAnd, evOr, evI, ex, exs, runF, shP, getV, getP, place, isTys, isTy, outsOf, List.range_succ, fillA, backA, hasBw, cmpD, binD, bltD, bLen, ixv, subD, wipeD, bindT, bindMany, seqD, putD, putI, backD, isLstAt, setP, cStep, fStep, Function.comp_def]) (by omega) ok.rl ok.r1
  have a3 := fall_none n (v := .tup [T2 c.1.length, .int 2]) (w := LN c.2) (k := c.1.length) (by rw [share_pair, share_T2]; rfl) (by simp [ev, evs, evA, evAnd, evOr, evI, ex, exs, runF, shP, getV, getP, place, isTys, isTy, outsOf, List.range_succ, fillA, backA, hasBw, cmpD, binD, bltD, bLen, ixv, subD, wipeD, bindT, bindMany, seqD, putD, putI, backD, isLstAt, setP, cStep, fStep, Function.comp_def]) (by omega) ok.rl ok.mono
  have hr := repOk_one (x := .int 2) rfl c.1.length (by omega)
  have hs : share (.tup [.lst true (List.replicate c.1.length (.int 2)), .int 2]) = .tup [T2 c.1.length, .int 2] := by rw [share_pair, share_T2]; rfl
  have h1 : (1 : Int) ≤ (c.1.length : Int) := by omega
  have h6 : (c.1.length : Int) ≤ 6 := by omega
  show runF (evF prog (n + 3)) F.is_company_of [_, _] = _
  simp [ev, evs, evA, evAnd, evOr, evI, ex, exs, runF, shP, getV, getP, place, isTys, isTy, outsOf, List.range_succ, fillA, backA, hasBw, cmpD, binD, bltD, bLen, ixv, subD, wipeD, bindT, bindMany, seqD, putD, putI, backD, isLstAt, setP, cStep, fStep, Function.comp_def, F.is_company_of, hv, a1, h1, h6, hr, flat_rep, le_lim, hs, a2, a3]
theorem holdings_ok (n : Nat) {v : D} {p : Nat} {cs : List (List Nat × List Nat)} (hv : share v = cH p cs) (ok : okH p cs) : evF prog (n + 5) 13 [v] = some (.bl true, [.hole]) := by
  obtain ⟨p1, p6, c1, c8, co⟩ := ok
  have e1 : ev (evF prog (n + 4)) [] F.is_holdings.c1 [cH p cs, .int ((p + cs.length : Nat) : Nat), .hole] = some (.lst true [], [cH p cs, .int ((p + cs.length : Nat) : Nat), .hole]) := by
    refine (comp_filt (env1 := [cH p cs, .int ((p + cs.length : Nat) : Nat), .hole]) (r := none) (xs := cs) dCo (fun _ => none) ?_ fun c hc => ?_).trans ?_
    · simp [ev, evs, evA, evAnd, evOr, evI, ex, exs, runF, shP, getV, getP, place, isTys, isTy, outsOf, List.range_succ, fillA, backA, hasBw, cmpD, binD, bltD, bLen, ixv, subD, wipeD, bindT, bindMany, seqD, putD, putI, backD, isLstAt, setP, cStep, fStep, Function.comp_def, -Int.natCast_add]
    · have := company_ok n (v := dCo c) (m := p + cs.length) (c := c) (by simp [ev, evs, evA, evAnd, evOr, evI, ex, exs, runF, shP, getV, getP, place, isTys, isTy, outsOf, List.range_succ, fillA, backA, hasBw, cmpD, binD, bltD, bLen, ixv, subD, wipeD, bindT, bindMany, seqD, putD, putI, backD, isLstAt, setP, cStep, fStep, Function.comp_def]) (co c hc)
      simp [ev, evs, evA, evAnd, evOr, evI, ex, exs, runF, shP, getV, getP, place, isTys, isTy, outsOf, List.range_succ, fillA, backA, hasBw, cmpD, binD, bltD, bLen, ixv, subD, wipeD, bindT, bindMany, seqD, putD, putI, backD, isLstAt, setP, cStep, fStep, Function.comp_def, -Int.natCast_add, this]
    · simp [ev, evs, evA, evAnd, evOr, evI, ex, exs, runF, shP, getV, getP, place, isTys, isTy, outsOf, List.range_succ, fillA, backA, hasBw, cmpD, binD, bltD, bLen, ixv, subD, wipeD, bindT, bindMany, seqD, putD, putI, backD, isLstAt, setP, cStep, fStep, Function.comp_def]
  have h1 : (1 : Int) ≤ (p : Int) := by omega
  have h6 : (p : Int) ≤ 6 := by omega
  have h2 : (1 : Int) ≤ (cs.length : Int) := by omega
  have h8 : (cs.length : Int) ≤ 8 := by omega
  simp [ev, evs, evA, evAnd, evOr, evI, ex, exs, runF, shP, getV, getP, place, isTys, isTy, outsOf, List.range_succ, fillA, backA, hasBw, cmpD, binD, bltD, bLen, ixv, subD, wipeD, bindT, bindMany, seqD, putD, putI, backD, isLstAt, setP, cStep, fStep, Function.comp_def] at e1
  show runF (evF prog (n + 4)) F.is_holdings [_] = _
  simp [ev, evs, evA, evAnd, evOr, evI, ex, exs, runF, shP, getV, getP, place, isTys, isTy, outsOf, List.range_succ, fillA, backA, hasBw, cmpD, binD, bltD, bLen, ixv, subD, wipeD, bindT, bindMany, seqD, putD, putI, backD, isLstAt, setP, cStep, fStep, Function.comp_def, F.is_holdings, hv, is_whole_ok, h1, h6, h2, h8, e1]
theorem check_h (n : Nat) {v : D} {p : Nat} {cs : List (List Nat × List Nat)} (hv : share v = cH p cs) (ok : okH p cs) : evF prog (n + 6) 14 [v] = some (.non, [.hole]) := by
  have h := holdings_ok n (v := cH p cs) (by simp [ev, evs, evA, evAnd, evOr, evI, ex, exs, runF, shP, getV, getP, place, isTys, isTy, outsOf, List.range_succ, fillA, backA, hasBw, cmpD, binD, bltD, bLen, ixv, subD, wipeD, bindT, bindMany, seqD, putD, putI, backD, isLstAt, setP, cStep, fStep, Function.comp_def]) ok
  show runF (evF prog (n + 5)) F.check_holdings [_] = _
  simp [ev, evs, evA, evAnd, evOr, evI, ex, exs, runF, shP, getV, getP, place, isTys, isTy, outsOf, List.range_succ, fillA, backA, hasBw, cmpD, binD, bltD, bLen, ixv, subD, wipeD, bindT, bindMany, seqD, putD, putI, backD, isLstAt, setP, cStep, fStep, Function.comp_def, F.check_holdings, hv, h]
theorem check_p (n : Nat) {v w : D} {p : Nat} {cs : List (List Nat × List Nat)} {cr : List Nat} (hv : share v = cH p cs) (hw : share w = LN cr) (asc : cr.Pairwise (· < ·)) (bd : ∀ x ∈ cr, x < p) (hl : cr.length ≤ 1000000) : evF prog (n + 4) 15 [v, w] = some (.non, [.hole, .hole]) := by
  have h := is_asc_ok n (v := LN cr) (hs := cr) (m := p) (by simp [ev, evs, evA, evAnd, evOr, evI, ex, exs, runF, shP, getV, getP, place, isTys, isTy, outsOf, List.range_succ, fillA, backA, hasBw, cmpD, binD, bltD, bLen, ixv, subD, wipeD, bindT, bindMany, seqD, putD, putI, backD, isLstAt, setP, cStep, fStep, Function.comp_def]) asc bd hl
  show runF (evF prog (n + 3)) F.check_people [_, _] = _
  simp [ev, evs, evA, evAnd, evOr, evI, ex, exs, runF, shP, getV, getP, place, isTys, isTy, outsOf, List.range_succ, fillA, backA, hasBw, cmpD, binD, bltD, bLen, ixv, subD, wipeD, bindT, bindMany, seqD, putD, putI, backD, isLstAt, setP, cStep, fStep, Function.comp_def, F.check_people, hv, hw, h]
theorem check_c (n : Nat) {v : D} {p : Nat} {cs : List (List Nat × List Nat)} {k : Nat} (hv : share v = cH p cs) (hk : k < cs.length) : evF prog (n + 3) 16 [v, .int (k : Nat)] = some (.non, [.hole, .hole]) := by
  have h1 : ¬ (cs.length : Int) ≤ (k : Int) := by omega
  have h2 : ¬ cs.length ≤ k := by omega
  show runF (evF prog (n + 2)) F.check_company [_, _] = _
  simp [ev, evs, evA, evAnd, evOr, evI, ex, exs, runF, shP, getV, getP, place, isTys, isTy, outsOf, List.range_succ, fillA, backA, hasBw, cmpD, binD, bltD, bLen, ixv, subD, wipeD, bindT, bindMany, seqD, putD, putI, backD, isLstAt, setP, cStep, fStep, Function.comp_def, F.check_company, hv, is_count_ok, h2]
/-- who of the people is in a crowd -/
def bits (p : Nat) (cr : List Nat) : List Nat := (List.range p).map fun i => if i ∈ cr then 1 else 0
theorem bits_ok (p : Nat) (cr : List Nat) : bitl p (bits p cr) := ⟨by simp [ev, evs, evA, evAnd, evOr, evI, ex, exs, runF, shP, getV, getP, place, isTys, isTy, outsOf, List.range_succ, fillA, backA, hasBw, cmpD, binD, bltD, bLen, ixv, subD, wipeD, bindT, bindMany, seqD, putD, putI, backD, isLstAt, setP, cStep, fStep, Function.comp_def, bits], fun x hx => by
  obtain ⟨i, _, rfl⟩ := List.mem_map.mp hx
  split <;> omega⟩
theorem said_ok (n : Nat) {v w : D} {p : Nat} {cs : List (List Nat × List Nat)} {cr : List Nat} (hv : share v = cH p cs) (hw : share w = LN cr) (hp : p ≤ 1000000) : evF prog (n + 1) 17 [v, w] = some (.lst true ((bits p cr).map fun x : Nat => .int (x : Nat)), [.hole, .hole]) := by
  have c1 : ev (evF prog n) [] F.said_by.c1 [cH p cs, LN cr, .hole] = some (.lst true ((List.range p).map fun i => .int ((if i ∈ cr then 1 else 0 : Nat) : Nat)), [cH p cs, LN cr, .hole]) := by
    refine (comp_map (env1 := [cH p cs, LN cr, .hole]) (r := none) (xs := List.range p) (fun i : Nat => D.int (i : Nat)) (fun i => .int ((if i ∈ cr then 1 else 0 : Nat) : Nat)) ?_ fun i hi => ?_).trans ?_
    · simp [ev, evs, evA, evAnd, evOr, evI, ex, exs, runF, shP, getV, getP, place, isTys, isTy, outsOf, List.range_succ, fillA, backA, hasBw, cmpD, binD, bltD, bLen, ixv, subD, wipeD, bindT, bindMany, seqD, putD, putI, backD, isLstAt, setP, cStep, fStep, Function.comp_def, rngs_zero _ hp]
    · have := any_cast i cr
      by_cases h : i ∈ cr
      · simp only [h, decide_true] at this
        simp [ev, evs, evA, evAnd, evOr, evI, ex, exs, runF, shP, getV, getP, place, isTys, isTy, outsOf, List.range_succ, fillA, backA, hasBw, cmpD, binD, bltD, bLen, ixv, subD, wipeD, bindT, bindMany, seqD, putD, putI, backD, isLstAt, setP, cStep, fStep, Function.comp_def, this, h]
      · simp only [h, decide_false] at this
        simp [ev, evs, evA, evAnd, evOr, evI, ex, exs, runF, shP, getV, getP, place, isTys, isTy, outsOf, List.range_succ, fillA, backA, hasBw, cmpD, binD, bltD, bLen, ixv, subD, wipeD, bindT, bindMany, seqD, putD, putI, backD, isLstAt, setP, cStep, fStep, Function.comp_def, this, h]
    · simp [ev, evs, evA, evAnd, evOr, evI, ex, exs, runF, shP, getV, getP, place, isTys, isTy, outsOf, List.range_succ, fillA, backA, hasBw, cmpD, binD, bltD, bLen, ixv, subD, wipeD, bindT, bindMany, seqD, putD, putI, backD, isLstAt, setP, cStep, fStep, Function.comp_def]
  show runF (evF prog n) F.said_by [_, _] = _
  simp [ev, evs, evA, evAnd, evOr, evI, ex, exs, runF, shP, getV, getP, place, isTys, isTy, outsOf, List.range_succ, fillA, backA, hasBw, cmpD, binD, bltD, bLen, ixv, subD, wipeD, bindT, bindMany, seqD, putD, putI, backD, isLstAt, setP, cStep, fStep, Function.comp_def, F.said_by, hv, hw, c1, bits]
theorem number_ok (n : Nat) {v w : D} {k : Nat} {b : List Nat} (hv : share v = T2 k) (hw : share w = LN b) (hb : bitl k b) (hk : k ≤ 100) : evF prog (n + 1) 5 [v, w] = some (.int (num b : Nat), [.hole, .hole]) := by
  obtain ⟨env', e, x, y, rfl⟩ := for_rel (Γ := evF prog n) (ios := []) (tg := .tp [3, 4]) (body := F.number_in.b1) (it := .enum (.sh 0)) (env := [T2 k, LN b, .int 0, .hole, .hole]) (env1 := [T2 k, LN b, .int 0, .hole, .hole]) (r := none) (xs := (List.replicate k (2 : Int)).zipIdx) (fun p : Int × Nat => D.tup [.int (p.2 : Nat), .int p.1])
    (fun j env => ∃ x y, env = [T2 k, LN b, .int (num (b.take j) : Nat), x, y]) (by
      have := enumD_map D.int (List.replicate k (2 : Int))
      simp [ev, evs, evA, evAnd, evOr, evI, ex, exs, runF, shP, getV, getP, place, isTys, isTy, outsOf, List.range_succ, fillA, backA, hasBw, cmpD, binD, bltD, bLen, ixv, subD, wipeD, bindT, bindMany, seqD, putD, putI, backD, isLstAt, setP, cStep, fStep, Function.comp_def] at this
      simp [ev, evs, evA, evAnd, evOr, evI, ex, exs, runF, shP, getV, getP, place, isTys, isTy, outsOf, List.range_succ, fillA, backA, hasBw, cmpD, binD, bltD, bLen, ixv, subD, wipeD, bindT, bindMany, seqD, putD, putI, backD, isLstAt, setP, cStep, fStep, Function.comp_def, this]) ⟨.hole, .hole, by simp [ev, evs, evA, evAnd, evOr, evI, ex, exs, runF, shP, getV, getP, place, isTys, isTy, outsOf, List.range_succ, fillA, backA, hasBw, cmpD, binD, bltD, bLen, ixv, subD, wipeD, bindT, bindMany, seqD, putD, putI, backD, isLstAt, setP, cStep, fStep, Function.comp_def, num]⟩ (by
      rintro j env ⟨x, i⟩ hx ⟨y, z, rfl⟩
      rw [List.getElem?_zipIdx] at hx
      obtain ⟨w, h1, h2⟩ := Option.map_eq_some_iff.mp hx
      simp only [Prod.mk.injEq, Nat.zero_add] at h2
      obtain ⟨rfl, rfl⟩ := h2
      obtain ⟨hj, h3⟩ := List.getElem?_eq_some_iff.mp h1
      simp only [List.length_replicate] at hj
      simp only [List.getElem_replicate] at h3
      subst h3
      have hjb : j < b.length := by rw [hb.1]; exact hj
      have g1 : b[j]? = some b[j] := List.getElem?_eq_getElem hjb
      have ht : num (b.take (j + 1)) = num (b.take j) * 2 + b[j] := by rw [List.take_add_one, g1]; exact num_snoc _ _
      have hlt : num (b.take j) < 2 ^ 100 := by
        have h4 : bitl j (b.take j) := ⟨by rw [List.length_take]; omega, fun x hx => hb.2 x (List.mem_of_mem_take hx)⟩
        exact Nat.lt_of_lt_of_le (num_lt h4) (Nat.pow_le_pow_right (by decide) (by omega))
      have hm : mulOk (num (b.take j) : Nat) 2 = true := mulOk_of 100 2 (by rw [Int.natAbs_natCast]; exact hlt) (by decide) (by decide)
      refine ⟨_, ?_, .int j, .int 2, rfl⟩
      rw [ht]
      simp [ev, evs, evA, evAnd, evOr, evI, ex, exs, runF, shP, getV, getP, place, isTys, isTy, outsOf, List.range_succ, fillA, backA, hasBw, cmpD, binD, bltD, bLen, ixv, subD, wipeD, bindT, bindMany, seqD, putD, putI, backD, isLstAt, setP, cStep, fStep, Function.comp_def, F.number_in.b1, hm, g1])
  simp only [List.length_zipIdx, List.length_replicate] at e
  rw [List.take_of_length_le (by rw [hb.1]; omega)] at e
  have e' : ex (evF prog n) [] F.number_in.l1 [T2 k, LN b, .int 0, .hole, .hole] = _ := e
  show runF (evF prog n) F.number_in [_, _] = _
  simp [ev, evs, evA, evAnd, evOr, evI, ex, exs, runF, shP, getV, getP, place, isTys, isTy, outsOf, List.range_succ, fillA, backA, hasBw, cmpD, binD, bltD, bLen, ixv, subD, wipeD, bindT, bindMany, seqD, putD, putI, backD, isLstAt, setP, cStep, fStep, Function.comp_def, F.number_in, hv, hw, e']
theorem answers_ok (n : Nat) {v w : D} {p : Nat} {cs : List (List Nat × List Nat)} {said : List Nat} (hv : share v = cH p cs) (hw : share w = LN said) (ok : okH p cs) (hs : bitl (p + cs.length) said) : evF prog (n + 2) 18 [v, w] = some (.lst true ((ans cs said).map fun x : Nat => .int (x : Nat)), [.hole, .hole]) := by
  obtain ⟨env', e, x, y, rfl⟩ := for_rel (Γ := evF prog (n + 1)) (ios := []) (tg := .tp [3, 4]) (body := F.answers.b1) (it := .e (.pk 0 [.n 1])) (env := [cH p cs, LN said, .lst true [], .hole, .hole, .hole]) (env1 := [cH p cs, LN said, .lst true [], .hole, .hole, .hole]) (r := none) (xs := cs) dCo
    (fun j env => ∃ x y, env = [cH p cs, LN said, .lst true ((ans (cs.take j) said).map fun x : Nat => .int (x : Nat)), x, y, .hole]) (by simp [ev, evs, evA, evAnd, evOr, evI, ex, exs, runF, shP, getV, getP, place, isTys, isTy, outsOf, List.range_succ, fillA, backA, hasBw, cmpD, binD, bltD, bLen, ixv, subD, wipeD, bindT, bindMany, seqD, putD, putI, backD, isLstAt, setP, cStep, fStep, Function.comp_def]) ⟨.hole, .hole, by simp [ev, evs, evA, evAnd, evOr, evI, ex, exs, runF, shP, getV, getP, place, isTys, isTy, outsOf, List.range_succ, fillA, backA, hasBw, cmpD, binD, bltD, bLen, ixv, subD, wipeD, bindT, bindMany, seqD, putD, putI, backD, isLstAt, setP, cStep, fStep, Function.comp_def, ans]⟩ (by
      rintro j env c hc ⟨x, y, rfl⟩
      have oc := ok.co c (List.mem_of_getElem? hc)
      have l6 := oc.l6
      have c1 : ev (evF prog (n + 1)) [] F.answers.c1 [cH p cs, LN said, .lst true ((ans (cs.take j) said).map fun x : Nat => .int (x : Nat)), LN c.1, LN c.2, .hole] = some (.lst true ((c.1.map fun h => (said[h]?).getD 0).map fun x : Nat => .int (x : Nat)), [cH p cs, LN said, .lst true ((ans (cs.take j) said).map fun x : Nat => .int (x : Nat)), LN c.1, LN c.2, .hole]) := by
        refine (comp_map (env1 := [cH p cs, LN said, .lst true ((ans (cs.take j) said).map fun x : Nat => .int (x : Nat)), LN c.1, LN c.2, .hole]) (r := none) (xs := c.1) (fun x : Nat => D.int (x : Nat)) (fun h => .int ((said[h]?).getD 0 : Nat)) ?_ fun h hh => ?_).trans ?_
        · simp [ev, evs, evA, evAnd, evOr, evI, ex, exs, runF, shP, getV, getP, place, isTys, isTy, outsOf, List.range_succ, fillA, backA, hasBw, cmpD, binD, bltD, bLen, ixv, subD, wipeD, bindT, bindMany, seqD, putD, putI, backD, isLstAt, setP, cStep, fStep, Function.comp_def]
        · have hb := oc.bd h hh
          have hb' : h < said.length := by rw [hs.1]; exact hb
          have g1 : said[h]? = some said[h] := List.getElem?_eq_getElem hb'
          simp [ev, evs, evA, evAnd, evOr, evI, ex, exs, runF, shP, getV, getP, place, isTys, isTy, outsOf, List.range_succ, fillA, backA, hasBw, cmpD, binD, bltD, bLen, ixv, subD, wipeD, bindT, bindMany, seqD, putD, putI, backD, isLstAt, setP, cStep, fStep, Function.comp_def, g1]
        · simp [ev, evs, evA, evAnd, evOr, evI, ex, exs, runF, shP, getV, getP, place, isTys, isTy, outsOf, List.range_succ, fillA, backA, hasBw, cmpD, binD, bltD, bLen, ixv, subD, wipeD, bindT, bindMany, seqD, putD, putI, backD, isLstAt, setP, cStep, fStep, Function.comp_def]
      have hbits := said_bits (hs := c.1) hs.2
      have nm := number_ok n (v := .lst true (List.replicate c.1.length (.int 2))) (w := .lst true ((c.1.map fun h => (said[h]?).getD 0).map fun x : Nat => .int (x : Nat))) (share_T2 _ _) (share_LN _ _) hbits (by omega)
      have hlt := num_lt hbits
      have g2 : c.2[num (c.1.map fun h => (said[h]?).getD 0)]? = some (ansOne said c) := by
        have : num (c.1.map fun h => (said[h]?).getD 0) < c.2.length := by rw [oc.rl]; exact hlt
        rw [ansOne, List.getElem?_eq_getElem this]; rfl
      have hr := repOk_one (x := .int 2) rfl c.1.length (by omega)
      have hlim : (ans (cs.take j) said).length < lim := lt_lim (by have := ok.c8; simp [ev, evs, evA, evAnd, evOr, evI, ex, exs, runF, shP, getV, getP, place, isTys, isTy, outsOf, List.range_succ, fillA, backA, hasBw, cmpD, binD, bltD, bLen, ixv, subD, wipeD, bindT, bindMany, seqD, putD, putI, backD, isLstAt, setP, cStep, fStep, Function.comp_def, ans]; omega)
      have htk : ans (cs.take (j + 1)) said = ans (cs.take j) said ++ [ansOne said c] := by rw [List.take_add_one, hc]; simp [ev, evs, evA, evAnd, evOr, evI, ex, exs, runF, shP, getV, getP, place, isTys, isTy, outsOf, List.range_succ, fillA, backA, hasBw, cmpD, binD, bltD, bLen, ixv, subD, wipeD, bindT, bindMany, seqD, putD, putI, backD, isLstAt, setP, cStep, fStep, Function.comp_def, ans]
      refine ⟨_, ?_, LN c.1, LN c.2, rfl⟩
      rw [htk]
      generalize (c.1.map fun h => (said[h]?).getD 0) = bb at c1 nm g2
      simp [ev, evs, evA, evAnd, evOr, evI, ex, exs, runF, shP, getV, getP, place, isTys, isTy, outsOf, List.range_succ, fillA, backA, hasBw, cmpD, binD, bltD, bLen, ixv, subD, wipeD, bindT, bindMany, seqD, putD, putI, backD, isLstAt, setP, cStep, fStep, Function.comp_def, F.answers.b1, c1, hr, flat_rep, le_lim, nm, g2, hlim])
  have e' : ex (evF prog (n + 1)) [] F.answers.l1 [cH p cs, LN said, .lst true [], .hole, .hole, .hole] = _ := e
  rw [List.take_length] at e'
  show runF (evF prog (n + 1)) F.answers [_, _] = _
  simp [ev, evs, evA, evAnd, evOr, evI, ex, exs, runF, shP, getV, getP, place, isTys, isTy, outsOf, List.range_succ, fillA, backA, hasBw, cmpD, binD, bltD, bLen, ixv, subD, wipeD, bindT, bindMany, seqD, putD, putI, backD, isLstAt, setP, cStep, fStep, Function.comp_def, F.answers, hv, hw, e', le_lim]
end K81

namespace K81
open OE PySem PySem.Spec PyProof.Rows L2

theorem eqvAll_ints : ∀ a b : List Int, PyData.eqvAll (a.map PyData.int) (b.map PyData.int) = (a == b)
  | [], [] => by unfold PyData.eqvAll; rfl
  | [], _ :: _ => by unfold PyData.eqvAll; rfl
  | _ :: _, [] => by unfold PyData.eqvAll; rfl
  | x :: a, y :: b => by
    unfold PyData.eqvAll
    have h := eqvAll_ints a b
    simp only [List.map_cons, h, PyData.eqv]
    rfl
theorem plain_ints (o : Bool) (a : List Int) : plainD (.lst o (a.map D.int)) = true := by
  show plainD.plainL _ = true
  rw [plainL_all, List.all_map]; simp [ev, evs, evA, evAnd, evOr, evI, ex, exs, runF, shP, getV, getP, place, isTys, isTy, outsOf, List.range_succ, fillA, backA, hasBw, cmpD, binD, bltD, bLen, ixv, subD, wipeD, bindT, bindMany, seqD, putD, putI, backD, isLstAt, setP, cStep, fStep, Function.comp_def, catD, plainD]
theorem within_ints (k : Nat) (o : Bool) (a : List Int) : within (k + 1) (.lst o (a.map D.int)) = true := (okD.ints k o a).2
theorem toPy_ints (o : Bool) (a : List Int) : toPy (.lst o (a.map D.int)) = .list (a.map PyData.int) := by
  simp only [toPy, toPyL_map, List.map_map]
  rfl
theorem eqD_ints (o o' : Bool) (a b : List Int) : eqD (.lst o (a.map D.int)) (.lst o' (b.map D.int)) = some (a == b) := by
  rw [eqD, plain_ints, plain_ints, within_ints 59, toPy_ints, toPy_ints]
  simp only [Bool.true_or, Bool.and_self, if_true, PyData.eqv, eqvAll_ints]
theorem cast_eq (a b : List Nat) : ((a.map fun x : Nat => (x : Int)) == (b.map fun x : Nat => (x : Int))) = (a == b) := by
  rw [Bool.eq_iff_iff, beq_iff_eq, beq_iff_eq]
  constructor
  · intro h
    apply List.ext_getElem?
    intro i
    have := congrArg (fun l => l[i]?) h
    simp only [List.getElem?_map] at this
    cases h1 : a[i]? <;> cases h2 : b[i]? <;> simp [ev, evs, evA, evAnd, evOr, evI, ex, exs, runF, shP, getV, getP, place, isTys, isTy, outsOf, List.range_succ, fillA, backA, hasBw, cmpD, binD, bltD, bLen, ixv, subD, wipeD, bindT, bindMany, seqD, putD, putI, backD, isLstAt, setP, cStep, fStep, Function.comp_def, catD, h1, h2] at this ⊢
    omega
  · intro h; rw [h]
@[simp] theorem eqD_nats (o o' : Bool) (a b : List Nat) : eqD (.lst o (a.map fun x : Nat => D.int (x : Nat))) (.lst o' (b.map fun x : Nat => D.int (x : Nat))) = some (a == b) := by
  have := eqD_ints o o' (a.map fun x : Nat => (x : Int)) (b.map fun x : Nat => (x : Int))
  rw [cast_eq] at this
  simp only [List.map_map, Function.comp_def] at this
  exact this
theorem no_nats (l : List Nat) : ∀ x ∈ l, noOwn ((fun x : Nat => D.int (x : Nat)) x) = true := fun _ _ => rfl
abbrev ON (l : List Nat) : D := .lst true (l.map fun x : Nat => D.int (x : Nat))
theorem settled_ok (n : Nat) {v w : D} {p : Nat} {cs : List (List Nat × List Nat)} {cr : List Nat} {x : Nat} (hv : share v = cH p cs) (hw : share w = LN cr) (ok : okH p cs) (hx : x ≤ 1) (t0 : List Nat) (h0 : t0 = List.replicate cs.length x) :
    evF prog (n + 3) 19 [v, w, .int (x : Nat)] = some (ON (iter (fun t => ans cs (bits p cr ++ t)) t0 cs.length), [.hole, .hole, .hole]) := by
  have c8 := ok.c8
  have p6 := ok.p6
  have r := ans_ris ok (bits_ok p cr)
  have tb : bitl cs.length t0 := by
    subst h0
    exact ⟨by simp [ev, evs, evA, evAnd, evOr, evI, ex, exs, runF, shP, getV, getP, place, isTys, isTy, outsOf, List.range_succ, fillA, backA, hasBw, cmpD, binD, bltD, bLen, ixv, subD, wipeD, bindT, bindMany, seqD, putD, putI, backD, isLstAt, setP, cStep, fStep, Function.comp_def, catD], fun y hy => by rw [List.eq_of_mem_replicate hy]; exact hx⟩
  have hdir : leL t0 (ans cs (bits p cr ++ t0)) ∨ leL (ans cs (bits p cr ++ t0)) t0 := by
    have hx2 : x = 0 ∨ x = 1 := by omega
    subst h0
    rcases hx2 with rfl | rfl
    · exact .inl (zeros_le _ _)
    · exact .inr (le_ones (r.bits _ (ones_bits _)))
  obtain ⟨N, hN, hend, hne⟩ := iter_end r tb hdir
  have hfin : iter (fun t => ans cs (bits p cr ++ t)) t0 cs.length = iter (fun t => ans cs (bits p cr ++ t)) t0 N := by
    have := iter_stay hend (cs.length - N)
    rwa [show N + (cs.length - N) = cs.length by omega] at this
  have hstep : ∀ k, evF prog (n + 2) 18 [cH p cs, ON (bits p cr ++ iter (fun t => ans cs (bits p cr ++ t)) t0 k)] = some (ON (iter (fun t => ans cs (bits p cr ++ t)) t0 (k + 1)), [.hole, .hole]) := fun k => by
    have hb := iter_bits r tb k
    have hbp := bits_ok p cr
    exact answers_ok n (v := cH p cs) (w := ON _) (share_cH p cs) (share_LN true _) ok ⟨by rw [List.length_append, hb.1, hbp.1], fun y hy => by
      rcases List.mem_append.mp hy with hy | hy
      · exact hbp.2 y hy
      · exact hb.2 y hy⟩
  have hlens : ∀ k, (bits p cr).length + (iter (fun t => ans cs (bits p cr ++ t)) t0 k).length ≤ lim := fun k => le_lim (by rw [(bits_ok p cr).1, (iter_bits r tb k).1]; omega)
  have hs0 := said_ok (n + 1) (v := cH p cs) (w := LN cr) (cr := cr) (share_cH p cs) (share_LN _ _) (by omega)
  generalize hf : (fun t => ans cs (bits p cr ++ t)) = f at *
  obtain ⟨env', e, rfl⟩ := while_rel (Γ := evF prog (n + 2)) (ios := []) (body := F.settled_from.b1) (c := .eqp 5 [] 4 [] true) (env := [cH p cs, LN cr, .int x, ON (bits p cr), ON t0, ON (iter f t0 1)]) N
    (fun k env => env = [cH p cs, LN cr, .int x, ON (bits p cr), ON (iter f t0 k), ON (iter f t0 (k + 1))]) rfl (by unfold wfuel; omega) (by
      rintro k env hk rfl
      have h1 : (iter f t0 (k + 1) == iter f t0 k) = false := by simpa [ev, evs, evA, evAnd, evOr, evI, ex, exs, runF, shP, getV, getP, place, isTys, isTy, outsOf, List.range_succ, fillA, backA, hasBw, cmpD, binD, bltD, bLen, ixv, subD, wipeD, bindT, bindMany, seqD, putD, putI, backD, isLstAt, setP, cStep, fStep, Function.comp_def, catD] using hne k hk
      have h2 := hstep (k + 1)
      have h3 := hlens (k + 1)
      simp only [ON, List.map_append] at h2
      refine ⟨_, _, by simp [ev, evs, evA, evAnd, evOr, evI, ex, exs, runF, shP, getV, getP, place, isTys, isTy, outsOf, List.range_succ, fillA, backA, hasBw, cmpD, binD, bltD, bLen, ixv, subD, wipeD, bindT, bindMany, seqD, putD, putI, backD, isLstAt, setP, cStep, fStep, Function.comp_def, catD, h1]; rfl, ?_, rfl⟩
      simp [ev, evs, evA, evAnd, evOr, evI, ex, exs, runF, shP, getV, getP, place, isTys, isTy, outsOf, List.range_succ, fillA, backA, hasBw, cmpD, binD, bltD, bLen, ixv, subD, wipeD, bindT, bindMany, seqD, putD, putI, backD, isLstAt, setP, cStep, fStep, Function.comp_def, catD, F.settled_from.b1, chk_iff, h3, h2]) (by
      rintro env rfl
      have h1 : (iter f t0 (N + 1) == iter f t0 N) = true := by simpa [ev, evs, evA, evAnd, evOr, evI, ex, exs, runF, shP, getV, getP, place, isTys, isTy, outsOf, List.range_succ, fillA, backA, hasBw, cmpD, binD, bltD, bLen, ixv, subD, wipeD, bindT, bindMany, seqD, putD, putI, backD, isLstAt, setP, cStep, fStep, Function.comp_def, catD] using hend
      exact ⟨_, by simp [ev, evs, evA, evAnd, evOr, evI, ex, exs, runF, shP, getV, getP, place, isTys, isTy, outsOf, List.range_succ, fillA, backA, hasBw, cmpD, binD, bltD, bLen, ixv, subD, wipeD, bindT, bindMany, seqD, putD, putI, backD, isLstAt, setP, cStep, fStep, Function.comp_def, catD, h1], rfl⟩)
  have e' : ex (evF prog (n + 2)) [] F.settled_from.l1 [cH p cs, LN cr, .int x, ON (bits p cr), ON t0, ON (iter f t0 1)] = _ := e
  have hst := hstep 0
  have h3 := hlens 0
  simp only [ON, iter, List.map_append] at hst h3
  have hrep : (List.replicate cs.length (D.int (x : Nat))) = t0.map fun y : Nat => D.int (y : Nat) := by rw [h0, List.map_replicate]
  have hr := repOk_one (x := .int (x : Nat)) rfl cs.length (by omega)
  rw [hfin]
  show runF (evF prog (n + 2)) F.settled_from [_, _, _] = _
  have e1 : iter f t0 1 = f t0 := rfl
  rw [e1] at e'
  simp only [ON] at e' hs0
  simp [ev, evs, evA, evAnd, evOr, evI, ex, exs, runF, shP, getV, getP, place, isTys, isTy, outsOf, List.range_succ, fillA, backA, hasBw, cmpD, binD, bltD, bLen, ixv, subD, wipeD, bindT, bindMany, seqD, putD, putI, backD, isLstAt, setP, cStep, fStep, Function.comp_def, catD, F.settled_from, hv, hw, hs0, hr, flat_rep, hrep, chk_iff, h3, hst, e', le_lim]
theorem cast_beq (a b : Nat) : (((a : Nat) : Int) == (b : Int)) = (a == b) := by
  rw [Bool.eq_iff_iff, beq_iff_eq, beq_iff_eq]; omega
/-- the outcomes of a crowd -/
def fH (p : Nat) (cs : List (List Nat × List Nat)) (cr : List Nat) : List Nat → List Nat := fun t => ans cs (bits p cr ++ t)
def low (p : Nat) (cs : List (List Nat × List Nat)) (cr : List Nat) : List Nat := lst0 cs.length (fH p cs cr)
def hig (p : Nat) (cs : List (List Nat × List Nat)) (cr : List Nat) : List Nat := gst1 cs.length (fH p cs cr)
theorem fH_ris {p : Nat} {cs : List (List Nat × List Nat)} (ok : okH p cs) (cr : List Nat) : Ris cs.length (fH p cs cr) := ans_ris ok (bits_ok p cr)
theorem least_ok (n : Nat) {v w : D} {p : Nat} {cs : List (List Nat × List Nat)} {cr : List Nat} (hv : share v = cH p cs) (hw : share w = LN cr) (ok : okH p cs) : evF prog (n + 4) 20 [v, w] = some (ON (low p cs cr), [.hole, .hole]) := by
  have h := settled_ok n (v := cH p cs) (w := LN cr) (cr := cr) (x := 0) (share_cH p cs) (share_LN _ _) ok (by omega) _ rfl
  show runF (evF prog (n + 3)) F.least_of [_, _] = _
  simp only [ON, Int.natCast_zero] at h
  simp [ev, evs, evA, evAnd, evOr, evI, ex, exs, runF, shP, getV, getP, place, isTys, isTy, outsOf, List.range_succ, fillA, backA, hasBw, cmpD, binD, bltD, bLen, ixv, subD, wipeD, bindT, bindMany, seqD, putD, putI, backD, isLstAt, setP, cStep, fStep, Function.comp_def, catD, F.least_of, hv, hw, h]
  rfl

def others (p : Nat) (cr : List Nat) : List Nat := (List.range p).filter fun i => decide (i ∉ cr)

theorem low_len {p : Nat} {cs : List (List Nat × List Nat)} (ok : okH p cs) (cr : List Nat) : bitl cs.length (low p cs cr) := lst_bits (fH_ris ok cr)
theorem hig_len {p : Nat} {cs : List (List Nat × List Nat)} (ok : okH p cs) (cr : List Nat) : bitl cs.length (hig p cs cr) := gst_bits (fH_ris ok cr)
/-- a crowd of the people -/
structure okCr (p : Nat) (cr : List Nat) : Prop where
  asc : cr.Pairwise (· < ·)
  bd : ∀ x ∈ cr, x < p
theorem okCr.len {p : Nat} {cr : List Nat} (h : okCr p cr) : cr.length ≤ p := by
  have nd : cr.Nodup := h.asc.imp fun h => Nat.ne_of_lt h
  have := nd.length_le_of_subset (l₂ := List.range p) fun x hx => List.mem_range.mpr (h.bd x hx)
  simpa [ev, evs, evA, evAnd, evOr, evI, ex, exs, runF, shP, getV, getP, place, isTys, isTy, outsOf, List.range_succ, fillA, backA, hasBw, cmpD, binD, bltD, bLen, ixv, subD, wipeD, bindT, bindMany, seqD, putD, putI, backD, isLstAt, setP, cStep, fStep, Function.comp_def, catD] using this
theorem brings_ok (n : Nat) {u v : D} {p : Nat} {cs : List (List Nat × List Nat)} {cr : List Nat} {k : Nat} (hu : share u = cH p cs) (hv : share v = LN cr) (ok : okH p cs) (oc : okCr p cr) (hk : k < cs.length) : evF prog (n + 7) 21 [u, v, .int (k : Nat)] = some (.bl ((low p cs cr)[k]? == some 1), [.hole, .hole, .hole]) := by
  have p6 := ok.p6
  have cl := oc.len
  have h1 := check_h n (v := cH p cs) (share_cH p cs) ok
  have h2 := check_p (n + 2) (v := cH p cs) (w := LN cr) (p := p) (cs := cs) (share_cH p cs) (share_LN _ _) oc.asc oc.bd (by omega)
  have h3 := check_c (n + 3) (v := cH p cs) (p := p) (cs := cs) (share_cH p cs) hk
  have h4 := least_ok (n + 2) (v := cH p cs) (w := LN cr) (share_cH p cs) (share_LN _ _) ok
  have hb := low_len ok cr
  have hkl : k < (low p cs cr).length := by rw [hb.1]; exact hk
  have g1 : (low p cs cr)[k]? = some (low p cs cr)[k] := List.getElem?_eq_getElem hkl
  show runF (evF prog (n + 6)) F.brings [_, _, _] = _
  simp only [ON] at h4
  rw [g1]
  simp [ev, evs, evA, evAnd, evOr, evI, ex, exs, runF, shP, getV, getP, place, isTys, isTy, outsOf, List.range_succ, fillA, backA, hasBw, cmpD, binD, bltD, bLen, ixv, subD, wipeD, bindT, bindMany, seqD, putD, putI, backD, isLstAt, setP, cStep, fStep, Function.comp_def, catD, F.brings, hu, hv, h1, h2, h3, h4, g1]
  exact cast_beq _ 1

/-- the people that say yes -/
def yes (b : List Nat) : List Nat := (b.zipIdx.filter fun q => q.1 == 1).map (·.2)

end K81

namespace K81
open OE PySem PySem.Spec PyProof.Rows L2

theorem loopF_find2 {α : Type} {step : List D → D → Option Fl} (f : α → D) (I : List D → Prop) (p : α → Bool) (R : α → D) : ∀ (xs : List α) (env : List D), I env → (∀ env a, a ∈ xs → I env → (p a = true → ∃ env', step env (f a) = some (.rt (R a) env')) ∧ (p a = false → ∃ env', step env (f a) = some (.nx env') ∧ I env')) →
    (∀ a, xs.find? p = some a → ∃ env', loopF step (xs.map f) env = some (.rt (R a) env')) ∧ (xs.find? p = none → ∃ env', loopF step (xs.map f) env = some (.nx env') ∧ I env')
  | [], env, hI, h => ⟨fun a e => by simp [ev, evs, evA, evAnd, evOr, evI, ex, exs, runF, shP, getV, getP, place, isTys, isTy, outsOf, List.range_succ, fillA, backA, hasBw, cmpD, binD, bltD, bLen, ixv, subD, wipeD, bindT, bindMany, seqD, putD, putI, backD, isLstAt, setP, cStep, fStep, Function.comp_def] at e, fun _ => ⟨env, rfl, hI⟩⟩
  | a :: xs, env, hI, h => by
    obtain ⟨h1, h2⟩ := h env a List.mem_cons_self hI
    by_cases hp : p a = true
    · obtain ⟨env', e⟩ := h1 hp
      refine ⟨fun b hb => ?_, fun hn => ?_⟩
      · simp only [List.find?_cons, hp, Option.some.injEq] at hb
        subst hb
        exact ⟨env', by simp only [List.map_cons, loopF, e]⟩
      · simp [ev, evs, evA, evAnd, evOr, evI, ex, exs, runF, shP, getV, getP, place, isTys, isTy, outsOf, List.range_succ, fillA, backA, hasBw, cmpD, binD, bltD, bLen, ixv, subD, wipeD, bindT, bindMany, seqD, putD, putI, backD, isLstAt, setP, cStep, fStep, Function.comp_def, List.find?_cons, hp] at hn
    · have hp' : p a = false := by simpa [ev, evs, evA, evAnd, evOr, evI, ex, exs, runF, shP, getV, getP, place, isTys, isTy, outsOf, List.range_succ, fillA, backA, hasBw, cmpD, binD, bltD, bLen, ixv, subD, wipeD, bindT, bindMany, seqD, putD, putI, backD, isLstAt, setP, cStep, fStep, Function.comp_def] using hp
      obtain ⟨env', e, hI'⟩ := h2 hp'
      obtain ⟨q1, q2⟩ := loopF_find2 (step := step) f I p R xs env' hI' fun env b hb => h env b (List.mem_cons_of_mem _ hb)
      refine ⟨fun b hb => ?_, fun hn => ?_⟩
      · simp only [List.find?_cons, hp'] at hb
        obtain ⟨e2, h3⟩ := q1 b hb
        exact ⟨e2, by simp only [List.map_cons, loopF, e]; exact h3⟩
      · simp only [List.find?_cons, hp'] at hn
        obtain ⟨e2, h3, h4⟩ := q2 hn
        exact ⟨e2, by simp only [List.map_cons, loopF, e]; exact h3, h4⟩
abbrev ci (sizes : List Nat) : List Int := sizes.map fun s : Nat => (s : Int)
theorem lawballots_ok (n : Nat) {c : D} {sizes : List Nat} (hc : share c = LI (ci sizes)) (h : ∀ s ∈ sizes, 1 ≤ s ∧ s ≤ 1000000) (hb : (ballots sizes).length ≤ 1000000) (hs : sizes.length ≤ 1000000) :
    ∃ o, evF prog (n + 1) 31 [c] = some (.lst o ((ballots sizes).map TN), [.hole]) := by
  have step : ∀ (rows : List (List Nat)) (o : Bool) (x : D) (s : Nat), s ≤ 1000000 → (∀ r ∈ rows, r.length + 1 ≤ 1000000) → (oneMore rows s).length ≤ 1000000 →
      fStep (evF prog n) [] none (.nm 2) F._law_ballots.b1 [LI (ci sizes), .lst o (rows.map TN), x, .hole, .hole] (.int (s : Nat)) = some (.nx [LI (ci sizes), .lst true ((oneMore rows s).map TN), .int (s : Nat), .hole, .hole]) := fun rows o x s h2 hr hl => by
    have c1 : ∀ r ∈ rows, ev (evF prog n) [] F._law_ballots.c1 [LI (ci sizes), .lst false (rows.map TN), .int s, TN r, .hole] = some (.lst true ((List.range s).map fun c => TN (r ++ [c])), [LI (ci sizes), .lst false (rows.map TN), .int s, TN r, .hole]) := fun r hm => by
      have hrl := hr r hm
      refine (comp_map (env1 := [LI (ci sizes), .lst false (rows.map TN), .int s, TN r, .hole]) (r := none) (xs := List.range s) (fun c : Nat => D.int (c : Nat)) (fun c => TN (r ++ [c])) ?_ fun q hq => ?_).trans ?_
      · simp [ev, evs, evA, evAnd, evOr, evI, ex, exs, runF, shP, getV, getP, place, isTys, isTy, outsOf, List.range_succ, fillA, backA, hasBw, cmpD, binD, bltD, bLen, ixv, subD, wipeD, bindT, bindMany, seqD, putD, putI, backD, isLstAt, setP, cStep, fStep, Function.comp_def, rngs_zero _ h2]
      · simp [ev, evs, evA, evAnd, evOr, evI, ex, exs, runF, shP, getV, getP, place, isTys, isTy, outsOf, List.range_succ, fillA, backA, hasBw, cmpD, binD, bltD, bLen, ixv, subD, wipeD, bindT, bindMany, seqD, putD, putI, backD, isLstAt, setP, cStep, fStep, Function.comp_def, le_lim, le_lim hrl]
      · simp [ev, evs, evA, evAnd, evOr, evI, ex, exs, runF, shP, getV, getP, place, isTys, isTy, outsOf, List.range_succ, fillA, backA, hasBw, cmpD, binD, bltD, bLen, ixv, subD, wipeD, bindT, bindMany, seqD, putD, putI, backD, isLstAt, setP, cStep, fStep, Function.comp_def]
    have c2 : ev (evF prog n) [] F._law_ballots.c2 [LI (ci sizes), .lst o (rows.map TN), .int s, .hole, .hole] = some (.lst true (rows.map fun r => .lst true ((List.range s).map fun c => TN (r ++ [c]))), [LI (ci sizes), .lst false (rows.map TN), .int s, .hole, .hole]) := by
      refine (comp_map (env1 := [LI (ci sizes), .lst false (rows.map TN), .int s, .hole, .hole]) (r := none) (xs := rows) TN (fun r => .lst true ((List.range s).map fun c => TN (r ++ [c]))) ?_ fun q hq => ?_).trans ?_
      · simp [ev, evs, evA, evAnd, evOr, evI, ex, exs, runF, shP, getV, getP, place, isTys, isTy, outsOf, List.range_succ, fillA, backA, hasBw, cmpD, binD, bltD, bLen, ixv, subD, wipeD, bindT, bindMany, seqD, putD, putI, backD, isLstAt, setP, cStep, fStep, Function.comp_def]
      · simp [ev, evs, evA, evAnd, evOr, evI, ex, exs, runF, shP, getV, getP, place, isTys, isTy, outsOf, List.range_succ, fillA, backA, hasBw, cmpD, binD, bltD, bLen, ixv, subD, wipeD, bindT, bindMany, seqD, putD, putI, backD, isLstAt, setP, cStep, fStep, Function.comp_def, c1 q hq]
      · simp [ev, evs, evA, evAnd, evOr, evI, ex, exs, runF, shP, getV, getP, place, isTys, isTy, outsOf, List.range_succ, fillA, backA, hasBw, cmpD, binD, bltD, bLen, ixv, subD, wipeD, bindT, bindMany, seqD, putD, putI, backD, isLstAt, setP, cStep, fStep, Function.comp_def]
    have hl2 : (rows.map fun r => (List.range s).map fun c => TN (r ++ [c])).flatten = (oneMore rows s).map TN := by
      simp [ev, evs, evA, evAnd, evOr, evI, ex, exs, runF, shP, getV, getP, place, isTys, isTy, outsOf, List.range_succ, fillA, backA, hasBw, cmpD, binD, bltD, bLen, ixv, subD, wipeD, bindT, bindMany, seqD, putD, putI, backD, isLstAt, setP, cStep, fStep, Function.comp_def, oneMore, List.flatMap, List.map_flatten, Function.comp_def]
    have hcat := catAll_map (fun r => (List.range s).map fun c => TN (r ++ [c])) (fun _ => true) rows
    rw [hl2] at hcat
    simp [ev, evs, evA, evAnd, evOr, evI, ex, exs, runF, shP, getV, getP, place, isTys, isTy, outsOf, List.range_succ, fillA, backA, hasBw, cmpD, binD, bltD, bLen, ixv, subD, wipeD, bindT, bindMany, seqD, putD, putI, backD, isLstAt, setP, cStep, fStep, Function.comp_def, F._law_ballots.b1, c2, bSumL, le_lim, hcat, le_lim hl]
  have loop : ∀ (l : List Nat) (rows : List (List Nat)) (o : Bool) (x : D) (m : Nat), (∀ s ∈ l, 1 ≤ s ∧ s ≤ 1000000) → (l.foldl oneMore rows).length ≤ 1000000 → (∀ r ∈ rows, r.length ≤ m) → m + l.length ≤ 1000000 →
      ∃ o' x', loopF (fStep (evF prog n) [] none (.nm 2) F._law_ballots.b1) (l.map fun s : Nat => D.int (s : Nat)) [LI (ci sizes), .lst o (rows.map TN), x, .hole, .hole] = some (.nx [LI (ci sizes), .lst o' ((l.foldl oneMore rows).map TN), x', .hole, .hole]) := by
    intro l
    induction l with
    | nil => intro rows o x m _ _ _ _; exact ⟨o, x, rfl⟩
    | cons s l ih =>
      intro rows o x m h hb hm hml
      obtain ⟨h1, h2⟩ := h s List.mem_cons_self
      have hb' : (l.foldl oneMore (oneMore rows s)).length ≤ 1000000 := by simpa [ev, evs, evA, evAnd, evOr, evI, ex, exs, runF, shP, getV, getP, place, isTys, isTy, outsOf, List.range_succ, fillA, backA, hasBw, cmpD, binD, bltD, bLen, ixv, subD, wipeD, bindT, bindMany, seqD, putD, putI, backD, isLstAt, setP, cStep, fStep, Function.comp_def] using hb
      obtain ⟨o', x', e⟩ := ih (oneMore rows s) true (.int s) (m + 1) (fun y hy => h y (List.mem_cons_of_mem _ hy)) hb' (oneMore_row hm) (by simp only [List.length_cons] at hml; omega)
      refine ⟨o', x', ?_⟩
      have hl : (oneMore rows s).length ≤ 1000000 := Nat.le_trans (foldl_mono (fun y hy => (h y (List.mem_cons_of_mem _ hy)).1) _) hb'
      simp only [List.length_cons] at hml
      rw [List.map_cons, loopF, step rows o x s h2 (fun r hr => by have := hm r hr; omega) hl]
      exact e
  obtain ⟨o', x', e⟩ := loop sizes [[]] true .hole 0 h hb (by simp [ev, evs, evA, evAnd, evOr, evI, ex, exs, runF, shP, getV, getP, place, isTys, isTy, outsOf, List.range_succ, fillA, backA, hasBw, cmpD, binD, bltD, bLen, ixv, subD, wipeD, bindT, bindMany, seqD, putD, putI, backD, isLstAt, setP, cStep, fStep, Function.comp_def]) (by omega)
  refine ⟨o', ?_⟩
  have e1 : ex (evF prog n) [] F._law_ballots.l1 [LI (ci sizes), .lst true [.tup []], .hole, .hole, .hole] = some (.nx [LI (ci sizes), .lst o' ((ballots sizes).map TN), x', .hole, .hole]) := by
    refine (ex_for2 (items := sizes.map fun s : Nat => D.int (s : Nat)) (env1 := [LI (ci sizes), .lst true [.tup []], .hole, .hole, .hole]) (r := none) ?_ e).trans (by simp [ev, evs, evA, evAnd, evOr, evI, ex, exs, runF, shP, getV, getP, place, isTys, isTy, outsOf, List.range_succ, fillA, backA, hasBw, cmpD, binD, bltD, bLen, ixv, subD, wipeD, bindT, bindMany, seqD, putD, putI, backD, isLstAt, setP, cStep, fStep, Function.comp_def, mapF, ballots])
    simp [ev, evs, evA, evAnd, evOr, evI, ex, exs, runF, shP, getV, getP, place, isTys, isTy, outsOf, List.range_succ, fillA, backA, hasBw, cmpD, binD, bltD, bLen, ixv, subD, wipeD, bindT, bindMany, seqD, putD, putI, backD, isLstAt, setP, cStep, fStep, Function.comp_def, ci, Function.comp_def]
  show runF (evF prog n) F._law_ballots [_] = _
  simp [ev, evs, evA, evAnd, evOr, evI, ex, exs, runF, shP, getV, getP, place, isTys, isTy, outsOf, List.range_succ, fillA, backA, hasBw, cmpD, binD, bltD, bLen, ixv, subD, wipeD, bindT, bindMany, seqD, putD, putI, backD, isLstAt, setP, cStep, fStep, Function.comp_def, F._law_ballots, hc, e1, le_lim]

theorem listed_ok (n : Nat) {c : D} {sizes : List Nat} (hc : share c = LI (ci sizes)) (h : ∀ s ∈ sizes, 1 ≤ s ∧ s ≤ 1000000) (hb : (ballots sizes).length ≤ 1000000) (hs : sizes.length ≤ 1000000) :
    ∃ o, evF prog (n + 1) 4 [c] = some (.lst o ((ballots sizes).map TN), [.hole]) := by
  have step : ∀ (rows : List (List Nat)) (o : Bool) (x : D) (s : Nat), s ≤ 1000000 → (∀ r ∈ rows, r.length + 1 ≤ 1000000) → (oneMore rows s).length ≤ 1000000 →
      fStep (evF prog n) [] none (.nm 2) F.listed_ballots.b1 [LI (ci sizes), .lst o (rows.map TN), x, .hole, .hole] (.int (s : Nat)) = some (.nx [LI (ci sizes), .lst true ((oneMore rows s).map TN), .int (s : Nat), .hole, .hole]) := fun rows o x s h2 hr hl => by
    have hl2 : (rows.map fun r => (List.range s).map fun c => TN (r ++ [c])).flatten = (oneMore rows s).map TN := by
      simp [ev, evs, evA, evAnd, evOr, evI, ex, exs, runF, shP, getV, getP, place, isTys, isTy, outsOf, List.range_succ, fillA, backA, hasBw, cmpD, binD, bltD, bLen, ixv, subD, wipeD, bindT, bindMany, seqD, putD, putI, backD, isLstAt, setP, cStep, fStep, Function.comp_def, oneMore, List.flatMap, List.map_flatten, Function.comp_def]
    have hr' : ∀ r ∈ rows, ∀ acc, turns (fun env d => (bindT [] (.nm 4) d env).bind fun env1 => (ev (evF prog n) [] (.bin .add (.sh 3) (.tup (.cons (.sh 4) .nil))) env1).map fun q => (some q.1, wipeD q.2 [4])) ((List.range s).map fun c : Nat => D.int (c : Nat)) [LI (ci sizes), .lst false (rows.map TN), .int s, TN r, .hole] acc = some (acc ++ (List.range s).map fun c => TN (r ++ [c]), [LI (ci sizes), .lst false (rows.map TN), .int s, TN r, .hole]) := fun r hm acc => by
      have hrl := hr r hm
      rw [turns_map (fun c : Nat => D.int (c : Nat)) (fun c => TN (r ++ [c])) (List.range s) acc fun c hc => ?_]
      simp [ev, evs, evA, evAnd, evOr, evI, ex, exs, runF, shP, getV, getP, place, isTys, isTy, outsOf, List.range_succ, fillA, backA, hasBw, cmpD, binD, bltD, bLen, ixv, subD, wipeD, bindT, bindMany, seqD, putD, putI, backD, isLstAt, setP, cStep, fStep, Function.comp_def, le_lim, le_lim hrl]
    simp [ev, evs, evA, evAnd, evOr, evI, ex, exs, runF, shP, getV, getP, place, isTys, isTy, outsOf, List.range_succ, fillA, backA, hasBw, cmpD, binD, bltD, bLen, ixv, subD, wipeD, bindT, bindMany, seqD, putD, putI, backD, isLstAt, setP, cStep, fStep, Function.comp_def, F.listed_ballots.b1, F.listed_ballots.c1]
    rw [turns2_map (env := [LI (ci sizes), .lst false (rows.map TN), .int s, .hole, .hole]) TN (fun r => (List.range s).map fun c => TN (r ++ [c])) rows [] fun acc r hm => ?_]
    · simp only [List.nil_append, hl2, Option.bind_some, List.length_map, if_pos (le_lim hl)]
      simp [ev, evs, evA, evAnd, evOr, evI, ex, exs, runF, shP, getV, getP, place, isTys, isTy, outsOf, List.range_succ, fillA, backA, hasBw, cmpD, binD, bltD, bLen, ixv, subD, wipeD, bindT, bindMany, seqD, putD, putI, backD, isLstAt, setP, cStep, fStep, Function.comp_def, le_lim hl]
    · have := hr' r hm acc
      simp [ev, evs, evA, evAnd, evOr, evI, ex, exs, runF, shP, getV, getP, place, isTys, isTy, outsOf, List.range_succ, fillA, backA, hasBw, cmpD, binD, bltD, bLen, ixv, subD, wipeD, bindT, bindMany, seqD, putD, putI, backD, isLstAt, setP, cStep, fStep, Function.comp_def] at this
      simp [ev, evs, evA, evAnd, evOr, evI, ex, exs, runF, shP, getV, getP, place, isTys, isTy, outsOf, List.range_succ, fillA, backA, hasBw, cmpD, binD, bltD, bLen, ixv, subD, wipeD, bindT, bindMany, seqD, putD, putI, backD, isLstAt, setP, cStep, fStep, Function.comp_def, rngs_zero _ h2, this]
  have loop : ∀ (l : List Nat) (rows : List (List Nat)) (o : Bool) (x : D) (m : Nat), (∀ s ∈ l, 1 ≤ s ∧ s ≤ 1000000) → (l.foldl oneMore rows).length ≤ 1000000 → (∀ r ∈ rows, r.length ≤ m) → m + l.length ≤ 1000000 →
      ∃ o' x', loopF (fStep (evF prog n) [] none (.nm 2) F.listed_ballots.b1) (l.map fun s : Nat => D.int (s : Nat)) [LI (ci sizes), .lst o (rows.map TN), x, .hole, .hole] = some (.nx [LI (ci sizes), .lst o' ((l.foldl oneMore rows).map TN), x', .hole, .hole]) := by
    intro l
    induction l with
    | nil => intro rows o x m _ _ _ _; exact ⟨o, x, rfl⟩
    | cons s l ih =>
      intro rows o x m h hb hm hml
      obtain ⟨h1, h2⟩ := h s List.mem_cons_self
      have hb' : (l.foldl oneMore (oneMore rows s)).length ≤ 1000000 := by simpa [ev, evs, evA, evAnd, evOr, evI, ex, exs, runF, shP, getV, getP, place, isTys, isTy, outsOf, List.range_succ, fillA, backA, hasBw, cmpD, binD, bltD, bLen, ixv, subD, wipeD, bindT, bindMany, seqD, putD, putI, backD, isLstAt, setP, cStep, fStep, Function.comp_def] using hb
      obtain ⟨o', x', e⟩ := ih (oneMore rows s) true (.int s) (m + 1) (fun y hy => h y (List.mem_cons_of_mem _ hy)) hb' (oneMore_row hm) (by simp only [List.length_cons] at hml; omega)
      refine ⟨o', x', ?_⟩
      have hl : (oneMore rows s).length ≤ 1000000 := Nat.le_trans (foldl_mono (fun y hy => (h y (List.mem_cons_of_mem _ hy)).1) _) hb'
      simp only [List.length_cons] at hml
      rw [List.map_cons, loopF, step rows o x s h2 (fun r hr => by have := hm r hr; omega) hl]
      exact e
  obtain ⟨o', x', e⟩ := loop sizes [[]] true .hole 0 h hb (by simp [ev, evs, evA, evAnd, evOr, evI, ex, exs, runF, shP, getV, getP, place, isTys, isTy, outsOf, List.range_succ, fillA, backA, hasBw, cmpD, binD, bltD, bLen, ixv, subD, wipeD, bindT, bindMany, seqD, putD, putI, backD, isLstAt, setP, cStep, fStep, Function.comp_def]) (by omega)
  refine ⟨o', ?_⟩
  have e1 : ex (evF prog n) [] F.listed_ballots.l1 [LI (ci sizes), .lst true [.tup []], .hole, .hole, .hole] = some (.nx [LI (ci sizes), .lst o' ((ballots sizes).map TN), x', .hole, .hole]) := by
    refine (ex_for2 (items := sizes.map fun s : Nat => D.int (s : Nat)) (env1 := [LI (ci sizes), .lst true [.tup []], .hole, .hole, .hole]) (r := none) ?_ e).trans (by simp [ev, evs, evA, evAnd, evOr, evI, ex, exs, runF, shP, getV, getP, place, isTys, isTy, outsOf, List.range_succ, fillA, backA, hasBw, cmpD, binD, bltD, bLen, ixv, subD, wipeD, bindT, bindMany, seqD, putD, putI, backD, isLstAt, setP, cStep, fStep, Function.comp_def, mapF, ballots])
    simp [ev, evs, evA, evAnd, evOr, evI, ex, exs, runF, shP, getV, getP, place, isTys, isTy, outsOf, List.range_succ, fillA, backA, hasBw, cmpD, binD, bltD, bLen, ixv, subD, wipeD, bindT, bindMany, seqD, putD, putI, backD, isLstAt, setP, cStep, fStep, Function.comp_def, ci, Function.comp_def]
  show runF (evF prog n) F.listed_ballots [_] = _
  simp [ev, evs, evA, evAnd, evOr, evI, ex, exs, runF, shP, getV, getP, place, isTys, isTy, outsOf, List.range_succ, fillA, backA, hasBw, cmpD, binD, bltD, bLen, ixv, subD, wipeD, bindT, bindMany, seqD, putD, putI, backD, isLstAt, setP, cStep, fStep, Function.comp_def, F.listed_ballots, hc, e1, le_lim]
theorem T2_ci (k : Nat) : T2 k = LI (ci (List.replicate k 2)) := by simp [ev, evs, evA, evAnd, evOr, evI, ex, exs, runF, shP, getV, getP, place, isTys, isTy, outsOf, List.range_succ, fillA, backA, hasBw, cmpD, binD, bltD, bLen, ixv, subD, wipeD, bindT, bindMany, seqD, putD, putI, backD, isLstAt, setP, cStep, fStep, Function.comp_def, T2, List.map_replicate]
theorem listed2 (n : Nat) {c : D} {k : Nat} (hc : share c = T2 k) (hk : k ≤ 16) : ∃ o, evF prog (n + 1) 4 [c] = some (.lst o ((B2 k).map TN), [.hole]) := by
  have h2 : 2 ^ k ≤ 2 ^ 16 := Nat.pow_le_pow_right (by decide) hk
  exact listed_ok n (sizes := List.replicate k 2) (by rw [hc, T2_ci]) (fun s hs => by rw [List.eq_of_mem_replicate hs]; decide) (by show (B2 k).length ≤ _; rw [B2_len]; omega) (by simp [ev, evs, evA, evAnd, evOr, evI, ex, exs, runF, shP, getV, getP, place, isTys, isTy, outsOf, List.range_succ, fillA, backA, hasBw, cmpD, binD, bltD, bLen, ixv, subD, wipeD, bindT, bindMany, seqD, putD, putI, backD, isLstAt, setP, cStep, fStep, Function.comp_def]; omega)
theorem lawb2 (n : Nat) {c : D} {k : Nat} (hc : share c = T2 k) (hk : k ≤ 16) : ∃ o, evF prog (n + 1) 31 [c] = some (.lst o ((B2 k).map TN), [.hole]) := by
  have h2 : 2 ^ k ≤ 2 ^ 16 := Nat.pow_le_pow_right (by decide) hk
  exact lawballots_ok n (sizes := List.replicate k 2) (by rw [hc, T2_ci]) (fun s hs => by rw [List.eq_of_mem_replicate hs]; decide) (by show (B2 k).length ≤ _; rw [B2_len]; omega) (by simp [ev, evs, evA, evAnd, evOr, evI, ex, exs, runF, shP, getV, getP, place, isTys, isTy, outsOf, List.range_succ, fillA, backA, hasBw, cmpD, binD, bltD, bLen, ixv, subD, wipeD, bindT, bindMany, seqD, putD, putI, backD, isLstAt, setP, cStep, fStep, Function.comp_def]; omega)
/-- what parts a crowd's outcomes -/
def parts (p : Nat) (cs : List (List Nat × List Nat)) (b : List Nat) : Bool := low p cs (yes b) != hig p cs (yes b)
def told2 (p : Nat) (cs : List (List Nat × List Nat)) : D := match (B2 p).find? (parts p cs) with
  | some b => .tup [ON (yes b), ON (low p cs (yes b)), ON (hig p cs (yes b))]
  | none => .non
theorem closed_ON (l : List Nat) : closed (ON l) = true := by
  show (true && closed.closedL _) = true
  induction l with
  | nil => rfl
  | cons a l ih => simpa [ev, evs, evA, evAnd, evOr, evI, ex, exs, runF, shP, getV, getP, place, isTys, isTy, outsOf, List.range_succ, fillA, backA, hasBw, cmpD, binD, bltD, bLen, ixv, subD, wipeD, bindT, bindMany, seqD, putD, putI, backD, isLstAt, setP, cStep, fStep, Function.comp_def, closed.closedL, closed] using ih

end K81

namespace K81
open OE PySem PySem.Spec PyProof.Rows L2

theorem eq_nil_gen (o o' : Bool) (xs : List D) (h : xs.all plainD = true) : eqD (.lst o xs) (.lst o' []) = some xs.isEmpty := by
  cases xs with
  | nil => simp [ev, evs, evA, evAnd, evOr, evI, ex, exs, runF, shP, getV, getP, place, isTys, isTy, outsOf, List.range_succ, fillA, backA, hasBw, cmpD, binD, bltD, bLen, ixv, subD, wipeD, bindT, bindMany, seqD, putD, putI, backD, isLstAt, setP, cStep, fStep, Function.comp_def]
  | cons a l =>
    have e : PyData.eqvAll (toPy.toPyL (a :: l)) [] = false := by unfold PyData.eqvAll; rfl
    have h1 : plainD (.lst o (a :: l)) = true := by
      show plainD.plainL _ = true
      rw [plainL_all]; exact h
    have h2 : plainD (.lst o' []) = true := rfl
    have h3 : within 60 (.lst o' []) = true := rfl
    rw [eqD, h1, h2, h3, Bool.or_true, if_pos (by decide)]
    simp only [toPy, PyData.eqv]
    have e0 : toPy.toPyL [] = [] := rfl
    rw [e0, e]; rfl
theorem plain_TN (b : List Nat) : plainD (TN b) = true := by
  show plainD.plainL _ = true
  rw [plainL_all, List.all_map]; simp [ev, evs, evA, evAnd, evOr, evI, ex, exs, runF, shP, getV, getP, place, isTys, isTy, outsOf, List.range_succ, fillA, backA, hasBw, cmpD, binD, bltD, bLen, ixv, subD, wipeD, bindT, bindMany, seqD, putD, putI, backD, isLstAt, setP, cStep, fStep, Function.comp_def, plainD]
/-- a rising test -/
structure RF (f : List Nat → Nat) : Prop where
  one : ∀ b, f b ≤ 1
  up : ∀ b c, leL b c → f b ≤ f c
theorem sum_cast (l : List Nat) : (l.map fun x : Nat => (x : Int)).sum = ((l.sum : Nat) : Int) := by
  induction l with
  | nil => rfl
  | cons a l ih => rw [List.map_cons, List.sum_cons, ih, List.sum_cons]; simp [ev, evs, evA, evAnd, evOr, evI, ex, exs, runF, shP, getV, getP, place, isTys, isTy, outsOf, List.range_succ, fillA, backA, hasBw, cmpD, binD, bltD, bLen, ixv, subD, wipeD, bindT, bindMany, seqD, putD, putI, backD, isLstAt, setP, cStep, fStep, Function.comp_def]
def dot (k : Nat) (ws b : List Nat) : Nat := ((List.range k).map fun i => (ws[i]?).getD 0 * (b[i]?).getD 0).sum
theorem sum_le {α : Type} {f g : α → Nat} : ∀ {l : List α}, (∀ x ∈ l, f x ≤ g x) → (l.map f).sum ≤ (l.map g).sum
  | [], _ => Nat.le_refl _
  | a :: l, h => by
    have h1 := h a List.mem_cons_self
    have h2 := sum_le (f := f) (g := g) (l := l) fun x hx => h x (List.mem_cons_of_mem _ hx)
    simp only [List.map_cons, List.sum_cons]; omega
theorem rf_dot (k bar : Nat) (ws : List Nat) : RF fun b => if bar ≤ dot k ws b then 1 else 0 := by
  refine ⟨fun b => by split <;> omega, fun b c h => ?_⟩
  have := sum_le (f := fun i => (ws[i]?).getD 0 * (b[i]?).getD 0) (g := fun i => (ws[i]?).getD 0 * (c[i]?).getD 0) (l := List.range k) fun i _ => Nat.mul_le_mul_left _ (h i)
  have h2 : dot k ws b ≤ dot k ws c := this
  show (if bar ≤ dot k ws b then 1 else 0) ≤ (if bar ≤ dot k ws c then 1 else 0)
  split <;> split <;> omega
theorem weighted_ok (n : Nat) {N : Nat} {g : D} {k : Nat} (hg : Gen N g) (hN : N ≤ 900000000) (hk : k ≤ 16) : ∃ f g', RF f ∧ Gen (N + 2000) g' ∧ evF prog (n + 3) 35 [g, .int (k : Nat)] = some (ON ((B2 k).map f), [g', .hole]) := by
  obtain ⟨ys, env2, e1, h1, g1, rfl, hg1⟩ := comp_rel (Γ := evF prog (n + 2)) (ios := [0]) (own := [3]) (elt := .call 26 (.io 0 (.ex (.int 6) .nil))) (tg := .nm 3) (c := none) (cond := .non) (it := .rng1 (.sh 1)) (env := [g, .int (k : Nat), .hole, .hole, .hole, .hole]) (env1 := [g, .int (k : Nat), .hole, .hole, .hole, .hole]) (r := none) (xs := List.range k) (fun i : Nat => D.int (i : Nat))
    (fun j env => ∃ g, env = [g, .int (k : Nat), .hole, .hole, .hole, .hole] ∧ Gen (N + 100 * j) g) (fun _ y => ∃ w : Nat, y = .int (w : Nat) ∧ w < 6)
    (by simp [ev, evs, evA, evAnd, evOr, evI, ex, exs, runF, shP, getV, getP, place, isTys, isTy, outsOf, List.range_succ, fillA, backA, hasBw, cmpD, binD, bltD, bLen, ixv, subD, wipeD, bindT, bindMany, seqD, putD, putI, backD, isLstAt, setP, cStep, fStep, Function.comp_def, rngs_zero k (by omega)]) ⟨g, rfl, by simpa [ev, evs, evA, evAnd, evOr, evI, ex, exs, runF, shP, getV, getP, place, isTys, isTy, outsOf, List.range_succ, fillA, backA, hasBw, cmpD, binD, bltD, bLen, ixv, subD, wipeD, bindT, bindMany, seqD, putD, putI, backD, isLstAt, setP, cStep, fStep, Function.comp_def] using hg⟩ (by
      rintro j env x hx hj ⟨g, rfl, h1⟩
      rw [List.length_range] at hj
      obtain ⟨r, g', r1, r2, hg', e⟩ := random_ok n (m := 6) h1 (by omega) (by omega) (by decide)
      obtain ⟨w, rfl⟩ := Int.eq_ofNat_of_zero_le r1
      obtain ⟨a, b, d, rfl, _⟩ := id h1
      obtain ⟨a', b', d', rfl, _⟩ := id hg'
      exact ⟨.int (w : Nat), _, by simp [ev, evs, evA, evAnd, evOr, evI, ex, exs, runF, shP, getV, getP, place, isTys, isTy, outsOf, List.range_succ, fillA, backA, hasBw, cmpD, binD, bltD, bLen, ixv, subD, wipeD, bindT, bindMany, seqD, putD, putI, backD, isLstAt, setP, cStep, fStep, Function.comp_def, e], ⟨w, rfl, by omega⟩, _, rfl, hg'.mono (by omega)⟩)
  obtain ⟨ws, rfl, h3⟩ := F2.split h1
  rw [List.length_range] at hg1
  have hwl : ws.length = k := by simpa [ev, evs, evA, evAnd, evOr, evI, ex, exs, runF, shP, getV, getP, place, isTys, isTy, outsOf, List.range_succ, fillA, backA, hasBw, cmpD, binD, bltD, bLen, ixv, subD, wipeD, bindT, bindMany, seqD, putD, putI, backD, isLstAt, setP, cStep, fStep, Function.comp_def] using h3.len
  have hws : ∀ x ∈ ws, x < 6 := fun x hx => by
    obtain ⟨i, hi, rfl⟩ := List.getElem_of_mem hx
    obtain ⟨_, _, h⟩ := h3.get (List.getElem?_eq_getElem hi)
    exact h
  have hsum : ws.sum ≤ 6 * 16 := by
    have : ∀ l : List Nat, (∀ x ∈ l, x < 6) → l.sum ≤ 6 * l.length := by
      intro l
      induction l with
      | nil => intro _; simp [ev, evs, evA, evAnd, evOr, evI, ex, exs, runF, shP, getV, getP, place, isTys, isTy, outsOf, List.range_succ, fillA, backA, hasBw, cmpD, binD, bltD, bLen, ixv, subD, wipeD, bindT, bindMany, seqD, putD, putI, backD, isLstAt, setP, cStep, fStep, Function.comp_def]
      | cons a l ih =>
        intro h
        have := ih fun x hx => h x (List.mem_cons_of_mem _ hx)
        have := h a List.mem_cons_self
        simp only [List.sum_cons, List.length_cons]; omega
    have := this ws hws
    rw [hwl] at this; omega
  obtain ⟨r, g2, r1, r2, hg2, e2⟩ := random_ok n (m := (ws.sum : Nat) + 2) hg1 (by omega) (by omega) (by omega)
  obtain ⟨bar, rfl⟩ := Int.eq_ofNat_of_zero_le r1
  obtain ⟨o, hlb⟩ := lawb2 (n + 1) (c := .lst true (List.replicate k (.int 2))) (k := k) (share_T2 _ _) hk
  have hr := repOk_one (x := .int 2) rfl k (by omega)
  have c2 : ∀ b, bitl k b → ev (evF prog (n + 2)) [0] F._law_weighted.c2 [g2, .int (k : Nat), LN ws, .hole, .int (1 + (bar : Nat)), TN b] = some (.lst true ((List.range k).map fun i => .int (((ws[i]?).getD 0 * (b[i]?).getD 0 : Nat) : Nat)), [g2, .int (k : Nat), LN ws, .hole, .int (1 + (bar : Nat)), TN b]) := fun b hb => by
    refine (comp_map (env1 := [g2, .int (k : Nat), LN ws, .hole, .int (1 + (bar : Nat)), TN b]) (r := none) (xs := List.range k) (fun i : Nat => D.int (i : Nat)) (fun i => .int (((ws[i]?).getD 0 * (b[i]?).getD 0 : Nat) : Nat)) ?_ fun i hi => ?_).trans ?_
    · simp [ev, evs, evA, evAnd, evOr, evI, ex, exs, runF, shP, getV, getP, place, isTys, isTy, outsOf, List.range_succ, fillA, backA, hasBw, cmpD, binD, bltD, bLen, ixv, subD, wipeD, bindT, bindMany, seqD, putD, putI, backD, isLstAt, setP, cStep, fStep, Function.comp_def, rngs_zero k (by omega)]
    · rw [List.mem_range] at hi
      have hi1 : i < ws.length := by rw [hwl]; exact hi
      have hi2 : i < b.length := by rw [hb.1]; exact hi
      have g1 : ws[i]? = some ws[i] := List.getElem?_eq_getElem hi1
      have g2 : b[i]? = some b[i] := List.getElem?_eq_getElem hi2
      have q1 := hws _ (List.getElem_mem hi1)
      have q2 := hb.2 _ (List.getElem_mem hi2)
      have hm : mulOk (ws[i] : Nat) (b[i] : Nat) = true := mulOk_of 4 4 (by omega) (by omega) (by decide)
      simp [ev, evs, evA, evAnd, evOr, evI, ex, exs, runF, shP, getV, getP, place, isTys, isTy, outsOf, List.range_succ, fillA, backA, hasBw, cmpD, binD, bltD, bLen, ixv, subD, wipeD, bindT, bindMany, seqD, putD, putI, backD, isLstAt, setP, cStep, fStep, Function.comp_def, g1, g2, hm]
    · simp [ev, evs, evA, evAnd, evOr, evI, ex, exs, runF, shP, getV, getP, place, isTys, isTy, outsOf, List.range_succ, fillA, backA, hasBw, cmpD, binD, bltD, bLen, ixv, subD, wipeD, bindT, bindMany, seqD, putD, putI, backD, isLstAt, setP, cStep, fStep, Function.comp_def]
  have c3 : ev (evF prog (n + 2)) [0] F._law_weighted.c3 [g2, .int (k : Nat), LN ws, .hole, .int (1 + (bar : Nat)), .hole] = some (.lst true ((B2 k).map fun b => .int ((if 1 + bar ≤ dot k ws b then 1 else 0 : Nat) : Nat)), [g2, .int (k : Nat), LN ws, .hole, .int (1 + (bar : Nat)), .hole]) := by
    refine (comp_map (env1 := [g2, .int (k : Nat), LN ws, .hole, .int (1 + (bar : Nat)), .hole]) (r := none) (xs := B2 k) TN (fun b => .int ((if 1 + bar ≤ dot k ws b then 1 else 0 : Nat) : Nat)) ?_ fun b hb => ?_).trans ?_
    · simp [ev, evs, evA, evAnd, evOr, evI, ex, exs, runF, shP, getV, getP, place, isTys, isTy, outsOf, List.range_succ, fillA, backA, hasBw, cmpD, binD, bltD, bLen, ixv, subD, wipeD, bindT, bindMany, seqD, putD, putI, backD, isLstAt, setP, cStep, fStep, Function.comp_def, le_lim, hr, flat_rep, hlb]
    · have hs : ((List.range k).map fun i => (((ws[i]?).getD 0 * (b[i]?).getD 0 : Nat) : Int)).sum = ((dot k ws b : Nat) : Int) := by
        rw [dot, ← sum_cast, List.map_map]; rfl
      have c2' := c2 b (B2_mem.mp hb)
      have q : (1 + (bar : Int) ≤ (dot k ws b : Int)) ↔ 1 + bar ≤ dot k ws b := by omega
      simp [ev, evs, evA, evAnd, evOr, evI, ex, exs, runF, shP, getV, getP, place, isTys, isTy, outsOf, List.range_succ, fillA, backA, hasBw, cmpD, binD, bltD, bLen, ixv, subD, wipeD, bindT, bindMany, seqD, putD, putI, backD, isLstAt, setP, cStep, fStep, Function.comp_def, c2', bSum, bInt]
      simp [ev, evs, evA, evAnd, evOr, evI, ex, exs, runF, shP, getV, getP, place, isTys, isTy, outsOf, List.range_succ, fillA, backA, hasBw, cmpD, binD, bltD, bLen, ixv, subD, wipeD, bindT, bindMany, seqD, putD, putI, backD, isLstAt, setP, cStep, fStep, Function.comp_def] at hs
      rw [hs]
      by_cases h : 1 + bar ≤ dot k ws b
      · simp [ev, evs, evA, evAnd, evOr, evI, ex, exs, runF, shP, getV, getP, place, isTys, isTy, outsOf, List.range_succ, fillA, backA, hasBw, cmpD, binD, bltD, bLen, ixv, subD, wipeD, bindT, bindMany, seqD, putD, putI, backD, isLstAt, setP, cStep, fStep, Function.comp_def, h, q.mpr h]
      · have : ¬ (1 + (bar : Int) ≤ (dot k ws b : Int)) := fun z => h (q.mp z)
        simp [ev, evs, evA, evAnd, evOr, evI, ex, exs, runF, shP, getV, getP, place, isTys, isTy, outsOf, List.range_succ, fillA, backA, hasBw, cmpD, binD, bltD, bLen, ixv, subD, wipeD, bindT, bindMany, seqD, putD, putI, backD, isLstAt, setP, cStep, fStep, Function.comp_def, h, this]
    · simp [ev, evs, evA, evAnd, evOr, evI, ex, exs, runF, shP, getV, getP, place, isTys, isTy, outsOf, List.range_succ, fillA, backA, hasBw, cmpD, binD, bltD, bLen, ixv, subD, wipeD, bindT, bindMany, seqD, putD, putI, backD, isLstAt, setP, cStep, fStep, Function.comp_def]
  refine ⟨_, g2, rf_dot k (1 + bar) ws, hg2.mono (by omega), ?_⟩
  obtain ⟨a, b, c, rfl, _⟩ := id hg
  obtain ⟨a1, b1, c1', rfl, _⟩ := id hg1
  obtain ⟨a2, b2, c2', rfl, _⟩ := id hg2
  have e1' : ev (evF prog (n + 2)) [0] F._law_weighted.c1 [G a b c, .int (k : Nat), .hole, .hole, .hole, .hole] = _ := e1
  show runF (evF prog (n + 2)) F._law_weighted [_, _] = _
  simp [ev, evs, evA, evAnd, evOr, evI, ex, exs, runF, shP, getV, getP, place, isTys, isTy, outsOf, List.range_succ, fillA, backA, hasBw, cmpD, binD, bltD, bLen, ixv, subD, wipeD, bindT, bindMany, seqD, putD, putI, backD, isLstAt, setP, cStep, fStep, Function.comp_def, F._law_weighted, e1', bSum, sum_cast, e2, c3]
end K81

namespace K81
open OE PySem PySem.Spec PyProof.Rows L2

theorem pick_gen (n : Nat) {N : Nat} {g t : D} {ds : List D} (hg : Gen N g) (hN : N ≤ 1000000000) (ht : share t = .lst false ds) (h0 : ds ≠ []) (hl : ds.length ≤ 1000000) : ∃ d g', d ∈ ds ∧ Gen (N + 100) g' ∧ evF prog (n + 3) 29 [g, t] = some (d, [g', .hole]) := by
  have hpos : 0 < ds.length := List.length_pos_iff.mpr h0
  obtain ⟨r, g', h1, h2, h3, e⟩ := random_ok n (m := (ds.length : Nat)) hg hN (by omega) (by omega)
  obtain ⟨k, rfl⟩ := Int.eq_ofNat_of_zero_le h1
  have hk : k < ds.length := by omega
  refine ⟨ds[k], g', List.getElem_mem hk, h3, ?_⟩
  have hss : share (.lst false ds) = .lst false ds := by rw [← ht, share_share]
  obtain ⟨a, b, c, rfl, _⟩ := hg
  obtain ⟨a', b', c', rfl, _⟩ := h3
  show runF (evF prog (n + 2)) F._law_pick [_, _] = _
  simp [ev, evs, evA, evAnd, evOr, evI, ex, exs, runF, shP, getV, getP, place, isTys, isTy, outsOf, List.range_succ, fillA, backA, hasBw, cmpD, binD, bltD, bLen, ixv, subD, wipeD, bindT, bindMany, seqD, putD, putI, backD, isLstAt, setP, cStep, fStep, Function.comp_def, F._law_pick, ht, hss, e, hk]
/-- a ballot below another one -/
def blw (a b : List Nat) : Bool := (List.range a.length).all fun i => decide ((a[i]?).getD 0 ≤ (b[i]?).getD 0)
theorem below_ok (n : Nat) {v w : D} {k : Nat} {a b : List Nat} (hv : share v = TN a) (hw : share w = TN b) (ha : bitl k a) (hb : bitl k b) (hk : k ≤ 1000000) : evF prog (n + 1) 34 [v, w] = some (.bl (blw a b), [.hole, .hole]) := by
  have c1 : ev (evF prog n) [] F._law_below.c1 [TN a, TN b, .hole] = some (.lst true ((List.range a.length).filterMap fun i => if (b[i]?).getD 0 < (a[i]?).getD 0 then some (.int (i : Nat)) else none), [TN a, TN b, .hole]) := by
    refine (comp_filt (env1 := [TN a, TN b, .hole]) (r := none) (xs := List.range a.length) (fun i : Nat => D.int (i : Nat)) (fun i => if (b[i]?).getD 0 < (a[i]?).getD 0 then some (.int (i : Nat)) else none) ?_ fun i hi => ?_).trans ?_
    · simp [ev, evs, evA, evAnd, evOr, evI, ex, exs, runF, shP, getV, getP, place, isTys, isTy, outsOf, List.range_succ, fillA, backA, hasBw, cmpD, binD, bltD, bLen, ixv, subD, wipeD, bindT, bindMany, seqD, putD, putI, backD, isLstAt, setP, cStep, fStep, Function.comp_def, rngs_zero _ (show a.length ≤ 1000000 by rw [ha.1]; exact hk)]
    · rw [List.mem_range] at hi
      have hi2 : i < b.length := by rw [hb.1, ← ha.1]; exact hi
      have g1 : a[i]? = some a[i] := List.getElem?_eq_getElem hi
      have g2 : b[i]? = some b[i] := List.getElem?_eq_getElem hi2
      by_cases h : a[i] ≤ b[i]
      · have h' : ¬ b[i] < a[i] := by omega
        simp [ev, evs, evA, evAnd, evOr, evI, ex, exs, runF, shP, getV, getP, place, isTys, isTy, outsOf, List.range_succ, fillA, backA, hasBw, cmpD, binD, bltD, bLen, ixv, subD, wipeD, bindT, bindMany, seqD, putD, putI, backD, isLstAt, setP, cStep, fStep, Function.comp_def, g1, g2, h, h']
      · have h' : b[i] < a[i] := by omega
        simp [ev, evs, evA, evAnd, evOr, evI, ex, exs, runF, shP, getV, getP, place, isTys, isTy, outsOf, List.range_succ, fillA, backA, hasBw, cmpD, binD, bltD, bLen, ixv, subD, wipeD, bindT, bindMany, seqD, putD, putI, backD, isLstAt, setP, cStep, fStep, Function.comp_def, g1, g2, h, h']
    · simp [ev, evs, evA, evAnd, evOr, evI, ex, exs, runF, shP, getV, getP, place, isTys, isTy, outsOf, List.range_succ, fillA, backA, hasBw, cmpD, binD, bltD, bLen, ixv, subD, wipeD, bindT, bindMany, seqD, putD, putI, backD, isLstAt, setP, cStep, fStep, Function.comp_def]
  rw [filterMap_if] at c1
  have he := eq_nil_gen true true (((List.range a.length).filter fun x => decide ((b[x]?).getD 0 < (a[x]?).getD 0)).map fun i : Nat => D.int (i : Nat)) (by rw [List.all_map]; simp [ev, evs, evA, evAnd, evOr, evI, ex, exs, runF, shP, getV, getP, place, isTys, isTy, outsOf, List.range_succ, fillA, backA, hasBw, cmpD, binD, bltD, bLen, ixv, subD, wipeD, bindT, bindMany, seqD, putD, putI, backD, isLstAt, setP, cStep, fStep, Function.comp_def, plainD])
  have hb2 : (((List.range a.length).filter fun x => decide ((b[x]?).getD 0 < (a[x]?).getD 0)).map fun i : Nat => D.int (i : Nat)).isEmpty = blw a b := by
    rw [List.isEmpty_map, Bool.eq_iff_iff, List.isEmpty_iff, List.filter_eq_nil_iff, blw, List.all_eq_true]
    simp [ev, evs, evA, evAnd, evOr, evI, ex, exs, runF, shP, getV, getP, place, isTys, isTy, outsOf, List.range_succ, fillA, backA, hasBw, cmpD, binD, bltD, bLen, ixv, subD, wipeD, bindT, bindMany, seqD, putD, putI, backD, isLstAt, setP, cStep, fStep, Function.comp_def]
  rw [hb2] at he
  show runF (evF prog n) F._law_below [_, _] = _
  simp only [F._law_below]
  simp [ev, evs, evA, evAnd, evOr, evI, ex, exs, runF, shP, getV, getP, place, isTys, isTy, outsOf, List.range_succ, fillA, backA, hasBw, cmpD, binD, bltD, bLen, ixv, subD, wipeD, bindT, bindMany, seqD, putD, putI, backD, isLstAt, setP, cStep, fStep, Function.comp_def, hv, hw, c1, he]
theorem blw_up {k : Nat} {a b c : List Nat} (h : leL b c) : blw a b = true → blw a c = true := by
  simp only [blw, List.all_eq_true, decide_eq_true_eq]
  exact fun hb i hi => Nat.le_trans (hb i hi) (h i)
theorem rising_ok (n : Nat) {N : Nat} {g : D} {k : Nat} (hg : Gen N g) (hN : N ≤ 800000000) (hk : k ≤ 16) : ∃ f g' o, RF f ∧ Gen (N + 5000) g' ∧ evF prog (n + 4) 36 [g, .int (k : Nat)] = some (.lst o ((B2 k).map fun b => .int (f b : Nat)), [g', .hole]) := by
  obtain ⟨o, hlb⟩ := lawb2 (n + 2) (c := .lst true (List.replicate k (.int 2))) (k := k) (share_T2 _ _) hk
  have hr := repOk_one (x := .int 2) rfl k (by omega)
  obtain ⟨w, g1, w1, w2, hg1, e1⟩ := random_ok (n + 1) (m := 9) hg (by omega) (by omega) (by decide)
  obtain ⟨a, b, c, rfl, _⟩ := id hg
  obtain ⟨a1, b1, c1, rfl, _⟩ := id hg1
  have hpow : 2 ^ k ≤ 2 ^ 16 := Nat.pow_le_pow_right (by decide) hk
  have hB : (B2 k).length ≤ 1000000 := by rw [B2_len]; omega
  have hsB : ∀ o, share (.lst o ((B2 k).map TN)) = .lst false ((B2 k).map TN) := fun o => share_LTN o _
  by_cases h0 : w = 0
  · subst h0
    obtain ⟨r, g2, r1, r2, hg2, e2⟩ := random_ok (n + 1) (m := 2) hg1 (by omega) (by omega) (by decide)
    obtain ⟨q, rfl⟩ := Int.eq_ofNat_of_zero_le r1
    obtain ⟨a2, b2, c2, rfl, _⟩ := id hg2
    have f1 : ev (evF prog (n + 3)) [0] F._law_rising.c1 [G a2 b2 c2, .int (k : Nat), .lst o ((B2 k).map TN), .int 0, .int (q : Nat), .hole, .hole, .hole, .hole, .hole, .hole, .hole] = some (.lst true ((B2 k).map fun _ => .int (q : Nat)), [G a2 b2 c2, .int (k : Nat), .lst false ((B2 k).map TN), .int 0, .int (q : Nat), .hole, .hole, .hole, .hole, .hole, .hole, .hole]) := by
      refine (comp_map (env1 := [G a2 b2 c2, .int (k : Nat), .lst false ((B2 k).map TN), .int 0, .int (q : Nat), .hole, .hole, .hole, .hole, .hole, .hole, .hole]) (r := none) (xs := B2 k) TN (fun _ => .int (q : Nat)) ?_ fun b hb => ?_).trans ?_ <;> simp [ev, evs, evA, evAnd, evOr, evI, ex, exs, runF, shP, getV, getP, place, isTys, isTy, outsOf, List.range_succ, fillA, backA, hasBw, cmpD, binD, bltD, bLen, ixv, subD, wipeD, bindT, bindMany, seqD, putD, putI, backD, isLstAt, setP, cStep, fStep, Function.comp_def]
    refine ⟨fun _ => q, _, true, ⟨fun _ => by omega, fun _ _ _ => Nat.le_refl _⟩, hg2.mono (by omega), ?_⟩
    show runF (evF prog (n + 3)) F._law_rising [_, _] = _
    simp [ev, evs, evA, evAnd, evOr, evI, ex, exs, runF, shP, getV, getP, place, isTys, isTy, outsOf, List.range_succ, fillA, backA, hasBw, cmpD, binD, bltD, bLen, ixv, subD, wipeD, bindT, bindMany, seqD, putD, putI, backD, isLstAt, setP, cStep, fStep, Function.comp_def, F._law_rising, le_lim, hr, flat_rep, hlb, e1, e2, f1]
  have h0' : (w == 0) = false := by simpa [ev, evs, evA, evAnd, evOr, evI, ex, exs, runF, shP, getV, getP, place, isTys, isTy, outsOf, List.range_succ, fillA, backA, hasBw, cmpD, binD, bltD, bLen, ixv, subD, wipeD, bindT, bindMany, seqD, putD, putI, backD, isLstAt, setP, cStep, fStep, Function.comp_def] using h0
  by_cases h4 : w < 4
  · obtain ⟨f, g2, hf, hg2, e2⟩ := weighted_ok n (k := k) hg1 (by omega) hk
    obtain ⟨a2, b2, c2, rfl, _⟩ := id hg2
    refine ⟨f, _, true, hf, hg2.mono (by omega), ?_⟩
    show runF (evF prog (n + 3)) F._law_rising [_, _] = _
    simp [ev, evs, evA, evAnd, evOr, evI, ex, exs, runF, shP, getV, getP, place, isTys, isTy, outsOf, List.range_succ, fillA, backA, hasBw, cmpD, binD, bltD, bLen, ixv, subD, wipeD, bindT, bindMany, seqD, putD, putI, backD, isLstAt, setP, cStep, fStep, Function.comp_def, F._law_rising, le_lim, hr, flat_rep, hlb, e1, e2, h0', h4]
  by_cases h7 : w < 7
  · obtain ⟨t, g2, t1, t2, hg2, e2⟩ := random_ok (n + 1) (m := 4) hg1 (by omega) (by omega) (by decide)
    obtain ⟨t, rfl⟩ := Int.eq_ofNat_of_zero_le t1
    obtain ⟨a2, b2, c2, rfl, _⟩ := id hg2
    have hrg := rngs_zero (1 + t) (by omega)
    obtain ⟨ys, env2, f2, q1, g3, o3, rfl, hg3⟩ := comp_rel (Γ := evF prog (n + 3)) (ios := [0]) (own := [7]) (elt := .call 29 (.io 0 (.ex (.sh 2) .nil))) (tg := .nm 7) (c := none) (cond := .non) (it := .rng1 (.bin .add (.int 1) (.call 26 (.io 0 (.ex (.int 4) .nil))))) (env := [G a1 b1 c1, .int (k : Nat), .lst o ((B2 k).map TN), .int w, .hole, .hole, .hole, .hole, .hole, .hole, .hole, .hole]) (env1 := [G a2 b2 c2, .int (k : Nat), .lst o ((B2 k).map TN), .int w, .hole, .hole, .hole, .hole, .hole, .hole, .hole, .hole]) (r := none) (xs := List.range (1 + t)) (fun i : Nat => D.int (i : Nat))
      (fun j env => ∃ g o, env = [g, .int (k : Nat), .lst o ((B2 k).map TN), .int w, .hole, .hole, .hole, .hole, .hole, .hole, .hole, .hole] ∧ Gen (N + 200 + 100 * j) g) (fun _ y => ∃ l : List Nat, y = TN l ∧ bitl k l)
      (by
        simp [ev, evs, evA, evAnd, evOr, evI, ex, exs, runF, shP, getV, getP, place, isTys, isTy, outsOf, List.range_succ, fillA, backA, hasBw, cmpD, binD, bltD, bLen, ixv, subD, wipeD, bindT, bindMany, seqD, putD, putI, backD, isLstAt, setP, cStep, fStep, Function.comp_def] at hrg
        simp [ev, evs, evA, evAnd, evOr, evI, ex, exs, runF, shP, getV, getP, place, isTys, isTy, outsOf, List.range_succ, fillA, backA, hasBw, cmpD, binD, bltD, bLen, ixv, subD, wipeD, bindT, bindMany, seqD, putD, putI, backD, isLstAt, setP, cStep, fStep, Function.comp_def, e2, hrg]) ⟨_, o, rfl, hg2.mono (by omega)⟩ (by
        rintro j env x hx hj ⟨g, o', rfl, h1⟩
        rw [List.length_range] at hj
        obtain ⟨d, g', hd, hg', e⟩ := pick_gen n (t := .lst false ((B2 k).map TN)) h1 (by omega) (hsB false) (by
          intro z
          have := congrArg List.length z
          rw [List.length_map, B2_len] at this
          have := Nat.two_pow_pos k
          simp [ev, evs, evA, evAnd, evOr, evI, ex, exs, runF, shP, getV, getP, place, isTys, isTy, outsOf, List.range_succ, fillA, backA, hasBw, cmpD, binD, bltD, bLen, ixv, subD, wipeD, bindT, bindMany, seqD, putD, putI, backD, isLstAt, setP, cStep, fStep, Function.comp_def] at *) (by rw [List.length_map]; exact hB)
        obtain ⟨l, hl, rfl⟩ := List.mem_map.mp hd
        obtain ⟨a, b, d, rfl, _⟩ := id h1
        obtain ⟨a', b', d', rfl, _⟩ := id hg'
        exact ⟨TN l, _, by simp [ev, evs, evA, evAnd, evOr, evI, ex, exs, runF, shP, getV, getP, place, isTys, isTy, outsOf, List.range_succ, fillA, backA, hasBw, cmpD, binD, bltD, bLen, ixv, subD, wipeD, bindT, bindMany, seqD, putD, putI, backD, isLstAt, setP, cStep, fStep, Function.comp_def, e], ⟨l, rfl, B2_mem.mp hl⟩, _, false, rfl, hg'.mono (by omega)⟩)
    obtain ⟨lots, rfl, q2⟩ := F2.split q1
    have hlots : ∀ l ∈ lots, bitl k l := fun l hl => by
      obtain ⟨i, hi, rfl⟩ := List.getElem_of_mem hl
      obtain ⟨_, _, h⟩ := q2.get (List.getElem?_eq_getElem hi)
      exact h
    rw [List.length_range] at hg3
    obtain ⟨a3, b3, c3, rfl, _⟩ := id hg3
    have c3' : ∀ (o : Bool) (b : List Nat), bitl k b → ev (evF prog (n + 3)) [0] F._law_rising.c3 [G a3 b3 c3, .int (k : Nat), .lst false ((B2 k).map TN), .int w, .hole, TN b, .lst o (lots.map TN), .hole, .hole, .hole, .hole, .hole] = some (.lst true ((lots.filter fun l => blw l b).map TN), [G a3 b3 c3, .int (k : Nat), .lst false ((B2 k).map TN), .int w, .hole, TN b, .lst false (lots.map TN), .hole, .hole, .hole, .hole, .hole]) := fun o b hb => by
      have hfl : (lots.filter fun l => blw l b) = lots.filter fun l => decide (blw l b = true) := List.filter_congr fun l _ => by simp [ev, evs, evA, evAnd, evOr, evI, ex, exs, runF, shP, getV, getP, place, isTys, isTy, outsOf, List.range_succ, fillA, backA, hasBw, cmpD, binD, bltD, bLen, ixv, subD, wipeD, bindT, bindMany, seqD, putD, putI, backD, isLstAt, setP, cStep, fStep, Function.comp_def]
      rw [hfl, ← filterMap_if]
      refine (comp_filt (env1 := [G a3 b3 c3, .int (k : Nat), .lst false ((B2 k).map TN), .int w, .hole, TN b, .lst false (lots.map TN), .hole, .hole, .hole, .hole, .hole]) (r := none) (xs := lots) TN (fun l => if blw l b = true then some (TN l) else none) ?_ fun l hl => ?_).trans ?_
      · simp [ev, evs, evA, evAnd, evOr, evI, ex, exs, runF, shP, getV, getP, place, isTys, isTy, outsOf, List.range_succ, fillA, backA, hasBw, cmpD, binD, bltD, bLen, ixv, subD, wipeD, bindT, bindMany, seqD, putD, putI, backD, isLstAt, setP, cStep, fStep, Function.comp_def]
      · have hbl := below_ok (n + 2) (v := TN l) (w := TN b) (share_TN l) (share_TN b) (hlots l hl) hb (by omega)
        by_cases h : blw l b = true
        · simp [ev, evs, evA, evAnd, evOr, evI, ex, exs, runF, shP, getV, getP, place, isTys, isTy, outsOf, List.range_succ, fillA, backA, hasBw, cmpD, binD, bltD, bLen, ixv, subD, wipeD, bindT, bindMany, seqD, putD, putI, backD, isLstAt, setP, cStep, fStep, Function.comp_def, hbl, h]
        · have h' : blw l b = false := by simpa [ev, evs, evA, evAnd, evOr, evI, ex, exs, runF, shP, getV, getP, place, isTys, isTy, outsOf, List.range_succ, fillA, backA, hasBw, cmpD, binD, bltD, bLen, ixv, subD, wipeD, bindT, bindMany, seqD, putD, putI, backD, isLstAt, setP, cStep, fStep, Function.comp_def] using h
          simp [ev, evs, evA, evAnd, evOr, evI, ex, exs, runF, shP, getV, getP, place, isTys, isTy, outsOf, List.range_succ, fillA, backA, hasBw, cmpD, binD, bltD, bLen, ixv, subD, wipeD, bindT, bindMany, seqD, putD, putI, backD, isLstAt, setP, cStep, fStep, Function.comp_def, hbl, h']
      · simp [ev, evs, evA, evAnd, evOr, evI, ex, exs, runF, shP, getV, getP, place, isTys, isTy, outsOf, List.range_succ, fillA, backA, hasBw, cmpD, binD, bltD, bLen, ixv, subD, wipeD, bindT, bindMany, seqD, putD, putI, backD, isLstAt, setP, cStep, fStep, Function.comp_def]
    obtain ⟨ys, env3, f4, q4, o4, rfl⟩ := comp_rel (Γ := evF prog (n + 3)) (ios := [0]) (own := [5]) (elt := .blt .int (.cons (.cmp .ne F._law_rising.c3 (.lst .nil)) .nil)) (tg := .nm 5) (c := none) (cond := .non) (it := .e (.sh 2)) (env := [G a3 b3 c3, .int (k : Nat), .lst o3 ((B2 k).map TN), .int w, .hole, .hole, .lst true (lots.map TN), .hole, .hole, .hole, .hole, .hole]) (env1 := [G a3 b3 c3, .int (k : Nat), .lst false ((B2 k).map TN), .int w, .hole, .hole, .lst true (lots.map TN), .hole, .hole, .hole, .hole, .hole]) (r := none) (xs := B2 k) TN
      (fun j env => ∃ o, env = [G a3 b3 c3, .int (k : Nat), .lst false ((B2 k).map TN), .int w, .hole, .hole, .lst o (lots.map TN), .hole, .hole, .hole, .hole, .hole]) (fun b y => y = .int ((if (lots.any fun l => blw l b) then 1 else 0 : Nat) : Nat))
      (by simp [ev, evs, evA, evAnd, evOr, evI, ex, exs, runF, shP, getV, getP, place, isTys, isTy, outsOf, List.range_succ, fillA, backA, hasBw, cmpD, binD, bltD, bLen, ixv, subD, wipeD, bindT, bindMany, seqD, putD, putI, backD, isLstAt, setP, cStep, fStep, Function.comp_def]) ⟨true, rfl⟩ (by
        rintro j env b hb hj ⟨o', rfl⟩
        have hc := c3' o' b (B2_mem.mp hb)
        have he := eq_nil_gen true true ((lots.filter fun l => blw l b).map TN) (by rw [List.all_map]; simp [ev, evs, evA, evAnd, evOr, evI, ex, exs, runF, shP, getV, getP, place, isTys, isTy, outsOf, List.range_succ, fillA, backA, hasBw, cmpD, binD, bltD, bLen, ixv, subD, wipeD, bindT, bindMany, seqD, putD, putI, backD, isLstAt, setP, cStep, fStep, Function.comp_def, plain_TN])
        have hem : ((lots.filter fun l => blw l b).map TN).isEmpty = !(lots.any fun l => blw l b) := by
          rw [List.isEmpty_map, Bool.eq_iff_iff, List.isEmpty_iff, List.filter_eq_nil_iff]
          simp [ev, evs, evA, evAnd, evOr, evI, ex, exs, runF, shP, getV, getP, place, isTys, isTy, outsOf, List.range_succ, fillA, backA, hasBw, cmpD, binD, bltD, bLen, ixv, subD, wipeD, bindT, bindMany, seqD, putD, putI, backD, isLstAt, setP, cStep, fStep, Function.comp_def]
        rw [hem] at he
        refine ⟨_, _, ?_, rfl, false, rfl⟩
        simp only [cStep, bindT, List.mem_singleton, if_false, Option.bind_some, List.set, ev, evs, hc, le_lim, Option.map_some, cmpD, he]
        cases hq : (lots.any fun l => blw l b) <;> simp [ev, evs, evA, evAnd, evOr, evI, ex, exs, runF, shP, getV, getP, place, isTys, isTy, outsOf, List.range_succ, fillA, backA, hasBw, cmpD, binD, bltD, bLen, ixv, subD, wipeD, bindT, bindMany, seqD, putD, putI, backD, isLstAt, setP, cStep, fStep, Function.comp_def, le_lim, he, hq, bInt, hc])
    have q5 := q4.map_eq
    subst q5
    refine ⟨fun b => if (lots.any fun l => blw l b) then 1 else 0, _, true, ⟨fun b => by split <;> omega, fun b c h => ?_⟩, hg3.mono (by omega), ?_⟩
    · by_cases hb : (lots.any fun l => blw l b) = true
      · have hc : (lots.any fun l => blw l c) = true := by
          obtain ⟨l, hl, h2⟩ := List.any_eq_true.mp hb
          exact List.any_eq_true.mpr ⟨l, hl, blw_up (k := k) h h2⟩
        rw [if_pos hb, if_pos hc]; exact Nat.le_refl _
      · rw [if_neg hb]; exact Nat.zero_le _
    · have f2' : ev (evF prog (n + 3)) [0] F._law_rising.c2 [G a1 b1 c1, .int (k : Nat), .lst o ((B2 k).map TN), .int w, .hole, .hole, .hole, .hole, .hole, .hole, .hole, .hole] = _ := f2
      have f4' : ev (evF prog (n + 3)) [0] F._law_rising.c4 [G a3 b3 c3, .int (k : Nat), .lst o3 ((B2 k).map TN), .int w, .hole, .hole, .lst true (lots.map TN), .hole, .hole, .hole, .hole, .hole] = _ := f4
      show runF (evF prog (n + 3)) F._law_rising [_, _] = _
      simp [ev, evs, evA, evAnd, evOr, evI, ex, exs, runF, shP, getV, getP, place, isTys, isTy, outsOf, List.range_succ, fillA, backA, hasBw, cmpD, binD, bltD, bLen, ixv, subD, wipeD, bindT, bindMany, seqD, putD, putI, backD, isLstAt, setP, cStep, fStep, Function.comp_def, F._law_rising, le_lim, hr, flat_rep, hlb, e1, h0', h4, h7, f2', f4']
  · obtain ⟨f, g2, hf, hg2, e2⟩ := weighted_ok n (k := k) hg1 (by omega) hk
    obtain ⟨h, g3, hh, hg3, e3⟩ := weighted_ok n (k := k) hg2 (by omega) hk
    obtain ⟨a2, b2, c2, rfl, _⟩ := id hg2
    obtain ⟨a3, b3, c3, rfl, _⟩ := id hg3
    have f5 : ev (evF prog (n + 3)) [0] F._law_rising.c5 [G a3 b3 c3, .int (k : Nat), .lst o ((B2 k).map TN), .int w, .hole, .hole, .hole, .hole, .hole, ON ((B2 k).map f), ON ((B2 k).map h), .hole] = some (.lst true ((List.range (B2 k).length).map fun i => .int ((if w = 7 then min (f ((B2 k)[i]?.getD [])) (h ((B2 k)[i]?.getD [])) else max (f ((B2 k)[i]?.getD [])) (h ((B2 k)[i]?.getD [])) : Nat) : Nat)), [G a3 b3 c3, .int (k : Nat), .lst o ((B2 k).map TN), .int w, .hole, .hole, .hole, .hole, .hole, ON ((B2 k).map f), ON ((B2 k).map h), .hole]) := by
      refine (comp_map (env1 := [G a3 b3 c3, .int (k : Nat), .lst o ((B2 k).map TN), .int w, .hole, .hole, .hole, .hole, .hole, ON ((B2 k).map f), ON ((B2 k).map h), .hole]) (r := none) (xs := List.range (B2 k).length) (fun i : Nat => D.int (i : Nat)) (fun i => .int ((if w = 7 then min (f ((B2 k)[i]?.getD [])) (h ((B2 k)[i]?.getD [])) else max (f ((B2 k)[i]?.getD [])) (h ((B2 k)[i]?.getD [])) : Nat) : Nat)) ?_ fun i hi => ?_).trans ?_
      · simp [ev, evs, evA, evAnd, evOr, evI, ex, exs, runF, shP, getV, getP, place, isTys, isTy, outsOf, List.range_succ, fillA, backA, hasBw, cmpD, binD, bltD, bLen, ixv, subD, wipeD, bindT, bindMany, seqD, putD, putI, backD, isLstAt, setP, cStep, fStep, Function.comp_def, rngs_zero _ hB]
      · rw [List.mem_range] at hi
        have g1 : (B2 k)[i]? = some (B2 k)[i] := List.getElem?_eq_getElem hi
        by_cases h77 : w = 7
        · subst h77
          have : (if ((h (B2 k)[i] : Nat) : Int) < (f (B2 k)[i] : Nat) then ((h (B2 k)[i] : Nat) : Int) else (f (B2 k)[i] : Nat)) = ((min (f (B2 k)[i]) (h (B2 k)[i]) : Nat) : Int) := by split <;> omega
          simp [ev, evs, evA, evAnd, evOr, evI, ex, exs, runF, shP, getV, getP, place, isTys, isTy, outsOf, List.range_succ, fillA, backA, hasBw, cmpD, binD, bltD, bLen, ixv, subD, wipeD, bindT, bindMany, seqD, putD, putI, backD, isLstAt, setP, cStep, fStep, Function.comp_def] at this
          simp [ev, evs, evA, evAnd, evOr, evI, ex, exs, runF, shP, getV, getP, place, isTys, isTy, outsOf, List.range_succ, fillA, backA, hasBw, cmpD, binD, bltD, bLen, ixv, subD, wipeD, bindT, bindMany, seqD, putD, putI, backD, isLstAt, setP, cStep, fStep, Function.comp_def, g1, bMin, this]
        · have hw7 : (w == 7) = false := by simpa [ev, evs, evA, evAnd, evOr, evI, ex, exs, runF, shP, getV, getP, place, isTys, isTy, outsOf, List.range_succ, fillA, backA, hasBw, cmpD, binD, bltD, bLen, ixv, subD, wipeD, bindT, bindMany, seqD, putD, putI, backD, isLstAt, setP, cStep, fStep, Function.comp_def] using h77
          have : (if ((f (B2 k)[i] : Nat) : Int) < (h (B2 k)[i] : Nat) then ((h (B2 k)[i] : Nat) : Int) else (f (B2 k)[i] : Nat)) = ((max (f (B2 k)[i]) (h (B2 k)[i]) : Nat) : Int) := by split <;> omega
          simp [ev, evs, evA, evAnd, evOr, evI, ex, exs, runF, shP, getV, getP, place, isTys, isTy, outsOf, List.range_succ, fillA, backA, hasBw, cmpD, binD, bltD, bLen, ixv, subD, wipeD, bindT, bindMany, seqD, putD, putI, backD, isLstAt, setP, cStep, fStep, Function.comp_def] at this
          simp [ev, evs, evA, evAnd, evOr, evI, ex, exs, runF, shP, getV, getP, place, isTys, isTy, outsOf, List.range_succ, fillA, backA, hasBw, cmpD, binD, bltD, bLen, ixv, subD, wipeD, bindT, bindMany, seqD, putD, putI, backD, isLstAt, setP, cStep, fStep, Function.comp_def, g1, bMax, this, hw7, h77]
      · simp [ev, evs, evA, evAnd, evOr, evI, ex, exs, runF, shP, getV, getP, place, isTys, isTy, outsOf, List.range_succ, fillA, backA, hasBw, cmpD, binD, bltD, bLen, ixv, subD, wipeD, bindT, bindMany, seqD, putD, putI, backD, isLstAt, setP, cStep, fStep, Function.comp_def]
    have hlist : ((List.range (B2 k).length).map fun i => D.int ((if w = 7 then min (f ((B2 k)[i]?.getD [])) (h ((B2 k)[i]?.getD [])) else max (f ((B2 k)[i]?.getD [])) (h ((B2 k)[i]?.getD [])) : Nat) : Nat)) = (B2 k).map fun b => D.int ((if w = 7 then min (f b) (h b) else max (f b) (h b) : Nat) : Nat) := by
      apply List.ext_getElem?
      intro i
      simp only [List.getElem?_map]
      by_cases hi : i < (B2 k).length
      · simp [ev, evs, evA, evAnd, evOr, evI, ex, exs, runF, shP, getV, getP, place, isTys, isTy, outsOf, List.range_succ, fillA, backA, hasBw, cmpD, binD, bltD, bLen, ixv, subD, wipeD, bindT, bindMany, seqD, putD, putI, backD, isLstAt, setP, cStep, fStep, Function.comp_def, hi]
      · simp [ev, evs, evA, evAnd, evOr, evI, ex, exs, runF, shP, getV, getP, place, isTys, isTy, outsOf, List.range_succ, fillA, backA, hasBw, cmpD, binD, bltD, bLen, ixv, subD, wipeD, bindT, bindMany, seqD, putD, putI, backD, isLstAt, setP, cStep, fStep, Function.comp_def, hi]
    rw [hlist] at f5
    refine ⟨fun b => if w = 7 then min (f b) (h b) else max (f b) (h b), _, true, ⟨fun b => ?_, fun b c hbc => ?_⟩, hg3.mono (by omega), ?_⟩
    · have := hf.one b; have := hh.one b; split <;> omega
    · have := hf.up b c hbc; have := hh.up b c hbc; show (if w = 7 then _ else _) ≤ (if w = 7 then _ else _); split <;> omega
    · show runF (evF prog (n + 3)) F._law_rising [_, _] = _
      simp only [ON, List.map_map, Function.comp_def] at e2 e3 f5
      simp [ev, evs, evA, evAnd, evOr, evI, ex, exs, runF, shP, getV, getP, place, isTys, isTy, outsOf, List.range_succ, fillA, backA, hasBw, cmpD, binD, bltD, bLen, ixv, subD, wipeD, bindT, bindMany, seqD, putD, putI, backD, isLstAt, setP, cStep, fStep, Function.comp_def, F._law_rising, le_lim, hr, flat_rep, hlb, e1, e2, e3, h0', h4, h7, f5]
end K81

namespace K81
open OE PySem PySem.Spec PyProof.Rows L2

theorem cut_nat {α : Type} (xs : List α) (k : Nat) : OE.cutD xs none (some (k : Int)) = xs.take k := by
  unfold OE.cutD
  rw [HT.sIx_none, HT.sIx_nat, List.drop_zero, Nat.sub_zero]
  by_cases h : k ≤ xs.length
  · rw [Nat.min_eq_left h]
  · rw [Nat.min_eq_right (by omega), List.take_length, List.take_of_length_le (by omega)]
/-- holders drawn of a lot -/
structure okHs (m : Nat) (hs : List Nat) : Prop where
  asc : hs.Pairwise (· < ·)
  bd : ∀ h ∈ hs, h < m
  l1 : 1 ≤ hs.length
theorem cut_sorted {ms : List Int} {lot : List Nat} {m k : Nat} (hp : ms.Perm (lot.map fun x : Nat => (x : Int))) (nd : lot.Nodup) (bd : ∀ x ∈ lot, x < m) (hne : lot ≠ []) (hk : 1 ≤ k) :
    ∃ hs : List Nat, okHs m hs ∧ hs.length ≤ k ∧ bSorted [.lst true ((ms.map D.int).take k)] = some (ON hs) := by
  have hmem : ∀ x ∈ ms.take k, ∃ y ∈ lot, x = (y : Int) := fun x hx => by
    obtain ⟨y, hy, e⟩ := List.mem_map.mp (hp.mem_iff.mp (List.mem_of_mem_take hx))
    exact ⟨y, hy, e.symm⟩
  have hnd : ms.Nodup := by
    rw [hp.nodup_iff]
    exact nd.map (f := fun x : Nat => (x : Int)) fun a b hab => by omega
  have hnd2 : (ms.take k).Nodup := hnd.sublist (List.take_sublist k ms)
  generalize hsd : (ms.take k).mergeSort (fun a b => decide (a ≤ b)) = ss
  have hperm : ss.Perm (ms.take k) := by rw [← hsd]; exact List.mergeSort_perm _ _
  have hsort : ss.Pairwise fun a b => a ≤ b := by
    rw [← hsd]
    have := List.pairwise_mergeSort (le := fun a b : Int => decide (a ≤ b)) (fun a b c => by simp [ev, evs, evA, evAnd, evOr, evI, ex, exs, runF, shP, getV, getP, place, isTys, isTy, outsOf, List.range_succ, fillA, backA, hasBw, cmpD, binD, bltD, bLen, ixv, subD, wipeD, bindT, bindMany, seqD, putD, putI, backD, isLstAt, setP, cStep, fStep, Function.comp_def]; omega) (fun a b => by simp [ev, evs, evA, evAnd, evOr, evI, ex, exs, runF, shP, getV, getP, place, isTys, isTy, outsOf, List.range_succ, fillA, backA, hasBw, cmpD, binD, bltD, bLen, ixv, subD, wipeD, bindT, bindMany, seqD, putD, putI, backD, isLstAt, setP, cStep, fStep, Function.comp_def]; omega) (ms.take k)
    exact this.imp fun h => by simpa [ev, evs, evA, evAnd, evOr, evI, ex, exs, runF, shP, getV, getP, place, isTys, isTy, outsOf, List.range_succ, fillA, backA, hasBw, cmpD, binD, bltD, bLen, ixv, subD, wipeD, bindT, bindMany, seqD, putD, putI, backD, isLstAt, setP, cStep, fStep, Function.comp_def] using h
  have hlen : ms.length = lot.length := by rw [hp.length_eq, List.length_map]
  have hl1 : 1 ≤ lot.length := List.length_pos_iff.mpr hne
  have ec : (ss.map Int.toNat).map (fun x : Nat => (x : Int)) = ss := by
    rw [List.map_map]
    have : ss.map ((fun x : Nat => (x : Int)) ∘ Int.toNat) = ss.map id := List.map_congr_left fun x hx => by
      obtain ⟨y, _, rfl⟩ := hmem x (hperm.mem_iff.mp hx)
      simp [ev, evs, evA, evAnd, evOr, evI, ex, exs, runF, shP, getV, getP, place, isTys, isTy, outsOf, List.range_succ, fillA, backA, hasBw, cmpD, binD, bltD, bLen, ixv, subD, wipeD, bindT, bindMany, seqD, putD, putI, backD, isLstAt, setP, cStep, fStep, Function.comp_def]
    rw [this, List.map_id]
  refine ⟨ss.map Int.toNat, ⟨?_, fun h hh => ?_, ?_⟩, ?_, ?_⟩
  · rw [List.pairwise_map]
    have nd3 : ss.Nodup := hperm.nodup_iff.mpr hnd2
    refine (List.Pairwise.imp_of_mem ?_ (hsort.and nd3))
    rintro a b ha hb ⟨h1, h2⟩
    obtain ⟨x, _, rfl⟩ := hmem a (hperm.mem_iff.mp ha)
    obtain ⟨y, _, rfl⟩ := hmem b (hperm.mem_iff.mp hb)
    simp [ev, evs, evA, evAnd, evOr, evI, ex, exs, runF, shP, getV, getP, place, isTys, isTy, outsOf, List.range_succ, fillA, backA, hasBw, cmpD, binD, bltD, bLen, ixv, subD, wipeD, bindT, bindMany, seqD, putD, putI, backD, isLstAt, setP, cStep, fStep, Function.comp_def]
    have h3 : (x : Int) ≠ (y : Int) := h2
    omega
  · obtain ⟨z, hz, rfl⟩ := List.mem_map.mp hh
    obtain ⟨y, hy, rfl⟩ := hmem z (hperm.mem_iff.mp hz)
    simpa [ev, evs, evA, evAnd, evOr, evI, ex, exs, runF, shP, getV, getP, place, isTys, isTy, outsOf, List.range_succ, fillA, backA, hasBw, cmpD, binD, bltD, bLen, ixv, subD, wipeD, bindT, bindMany, seqD, putD, putI, backD, isLstAt, setP, cStep, fStep, Function.comp_def] using bd y hy
  · rw [List.length_map, hperm.length_eq, List.length_take, hlen]; omega
  · rw [List.length_map, hperm.length_eq, List.length_take]; omega
  · rw [← List.map_take]
    simp only [bSorted, allInts_map, Option.map_some, hsd]
    have : (ON (ss.map Int.toNat)) = .lst true (((ss.map Int.toNat).map fun x : Nat => (x : Int)).map D.int) := by
      simp only [ON, List.map_map, Function.comp_def]
    rw [this, ec]
theorem mono_dec {k : Nat} {rs : List Nat} (h : ∀ b ∈ B2 k, ∀ c ∈ B2 k, blw b c = true → (rs[num b]?).getD 0 ≤ (rs[num c]?).getD 0) : Mono k rs := fun b c hb hc hl =>
  h b (B2_mem.mpr hb) c (B2_mem.mpr hc) (by
    rw [blw, List.all_eq_true]
    intro i _
    exact decide_eq_true (hl i))
theorem co_of {m : Nat} {hs : List Nat} {f : List Nat → Nat} (h : okHs m hs) (h6 : hs.length ≤ 6) (hf : RF f) : okCo m (hs, (B2 hs.length).map f) := by
  refine ⟨h.asc, h.bd, h.l1, h6, by rw [List.length_map, B2_len], fun r hr => ?_, mono_map fun b c _ _ hl => hf.up b c hl⟩
  obtain ⟨b, _, rfl⟩ := List.mem_map.mp hr
  exact hf.one b
theorem shareL_snoc {ds : List D} {cs : List (List Nat × List Nat)} {d : D} {c : List Nat × List Nat} (h : ds.map share = cs.map dCo) (hd : share d = dCo c) : (ds ++ [d]).map share = (cs ++ [c]).map dCo := by
  rw [List.map_append, List.map_append, h, List.map_cons, hd]; rfl
theorem share_ds {ds : List D} {cs : List (List Nat × List Nat)} (h : ds.map share = cs.map dCo) (o : Bool) : share (.lst o ds) = dCos cs := by
  show D.lst false (share.shareL ds) = _
  rw [shareL_map, h]
/-- a lot of numbers -/
structure okLot (m : Nat) (lot : List Nat) : Prop where
  nd : lot.Nodup
  bd : ∀ x ∈ lot, x < m
  ne : lot ≠ []
theorem lot_range (m k : Nat) (h : 1 ≤ k) (hk : k ≤ m) : okLot m (List.range k) := ⟨List.nodup_range, fun x hx => by have := List.mem_range.mp hx; omega, by cases k; omega; simp [ev, evs, evA, evAnd, evOr, evI, ex, exs, runF, shP, getV, getP, place, isTys, isTy, outsOf, List.range_succ, fillA, backA, hasBw, cmpD, binD, bltD, bLen, ixv, subD, wipeD, bindT, bindMany, seqD, putD, putI, backD, isLstAt, setP, cStep, fStep, Function.comp_def, List.range_succ]⟩
/-- a company drawn -/
theorem drawn_co (n : Nat) {N : Nat} {g : D} {lot : List Nat} {m hm : Nat} (hg : Gen N g) (hN : N ≤ 700000000) (ol : okLot m lot) (hl : lot.length ≤ 100) (h1 : 1 ≤ hm) (h6 : hm ≤ 6) :
    ∃ (ms : List Int) (g1 g2 g3 : D) (r : Nat) (hs : List Nat) (d : D) (c : List Nat × List Nat), Gen (N + 20000) g3 ∧ okCo m c ∧ share d = LN c.2 ∧ c.1 = hs ∧
      evF prog (n + 4) 30 [g, LN lot] = some (.lst true (ms.map D.int), [g1, .hole]) ∧ evF prog (n + 4) 26 [g1, .int (hm : Nat)] = some (.int (r : Nat), [g2, .hole]) ∧
      bSorted [.lst true ((ms.map D.int).take (1 + r))] = some (ON hs) ∧ evF prog (n + 4) 36 [g2, .int (hs.length : Nat)] = some (d, [g3, .hole]) ∧ (∃ a b c, g1 = G a b c) ∧ (∃ a b c, g2 = G a b c) ∧ ∃ a b c, g3 = G a b c := by
  obtain ⟨ms, g1, hp, hg1, e1⟩ := order_ok (n + 1) (v := LN lot) (ns := lot.map fun x : Nat => (x : Int)) hg (by rw [List.length_map]; omega) (by rw [share_LN]; simp [ev, evs, evA, evAnd, evOr, evI, ex, exs, runF, shP, getV, getP, place, isTys, isTy, outsOf, List.range_succ, fillA, backA, hasBw, cmpD, binD, bltD, bLen, ixv, subD, wipeD, bindT, bindMany, seqD, putD, putI, backD, isLstAt, setP, cStep, fStep, Function.comp_def]) (by rw [List.length_map]; omega)
  rw [List.length_map] at hg1
  obtain ⟨r, g2, r1, r2, hg2, e2⟩ := random_ok (n + 2) (m := (hm : Nat)) hg1 (by omega) (by omega) (by omega)
  obtain ⟨r, rfl⟩ := Int.eq_ofNat_of_zero_le r1
  obtain ⟨hs, oh, hle, e3⟩ := cut_sorted (k := 1 + r) hp ol.nd ol.bd ol.ne (by omega)
  obtain ⟨f, g3, o, hf, hg3, e4⟩ := rising_ok n (k := hs.length) hg2 (by omega) (by omega)
  obtain ⟨a1, b1, c1, rfl, _⟩ := id hg1
  obtain ⟨a2, b2, c2, rfl, _⟩ := id hg2
  obtain ⟨a3, b3, c3, rfl, _⟩ := id hg3
  refine ⟨ms, _, _, _, r, hs, _, (hs, (B2 hs.length).map f), hg3.mono (by omega), co_of oh (by omega) hf, ?_, rfl, e1, e2, e3, e4, ⟨_, _, _, rfl⟩, ⟨_, _, _, rfl⟩, ⟨_, _, _, rfl⟩⟩
  have := share_LN o ((B2 hs.length).map f)
  simp only [List.map_map, Function.comp_def] at this
  rw [this]
theorem holdings_gen (n : Nat) {N : Nat} {g : D} {pm cm hm : Nat} (hg : Gen N g) (hN : N ≤ 400000000) (hp1 : 1 ≤ pm) (hp6 : pm ≤ 6) (hc1 : 1 ≤ cm) (hc8 : cm ≤ 8) (hh1 : 1 ≤ hm) (hh6 : hm ≤ 6) :
    ∃ (r g' : D) (p : Nat) (cs : List (List Nat × List Nat)), share r = cH p cs ∧ okH p cs ∧ Gen (N + 200000) g' ∧ evF prog (n + 5) 37 [g, .int (pm : Nat), .int (cm : Nat), .int (hm : Nat)] = some (r, [g', .hole, .hole, .hole]) := by
  obtain ⟨p, g1, p1, p2, hg1, e1⟩ := random_ok (n + 2) (m := (pm : Nat)) hg (by omega) (by omega) (by omega)
  obtain ⟨p, rfl⟩ := Int.eq_ofNat_of_zero_le p1
  obtain ⟨m, g2, m1, m2, hg2, e2⟩ := random_ok (n + 2) (m := (cm : Nat)) hg1 (by omega) (by omega) (by omega)
  obtain ⟨m, rfl⟩ := Int.eq_ofNat_of_zero_le m1
  obtain ⟨w, g3, w1, w2, hg3, e3⟩ := random_ok (n + 2) (m := 4) hg2 (by omega) (by omega) (by decide)
  have lot_ok : ∀ (g : D) (ds : List D) (turn : Nat) (x9 x10 : D), turn < 1 + m → ∃ (lot : List Nat) (o : Bool), okLot (1 + p + (1 + m)) lot ∧ lot.length ≤ 100 ∧
      ∀ rest, exs (evF prog (n + 4)) [0] (.cons (.asg 9 (.lrg1 (.bin .add (.sh 4) (.sh 5)))) (.cons (.ite (.cmp .eq (.sh 7) (.int 0)) (.cons (.asg 9 (.ite (.cmp .gt (.sh 8) (.int 0)) (.slc (.sh 9) false .non true (.bin .add (.sh 4) (.sh 8))) (.slc (.sh 9) false .non true (.sh 4)))) .nil) .nil) (.cons (.ite (.cmp .eq (.sh 7) (.int 1)) (.cons (.asg 9 F._law_holdings.c1) .nil) .nil) rest)))
        [g, .int (pm : Nat), .int (cm : Nat), .int (hm : Nat), .int ((1 + p : Nat) : Nat), .int ((1 + m : Nat) : Nat), .lst true ds, .int w, .int (turn : Nat), x9, x10, .hole] =
      exs (evF prog (n + 4)) [0] rest [g, .int (pm : Nat), .int (cm : Nat), .int (hm : Nat), .int ((1 + p : Nat) : Nat), .int ((1 + m : Nat) : Nat), .lst true ds, .int w, .int (turn : Nat), .lst o (lot.map fun x : Nat => .int (x : Nat)), x10, .hole] := by
    intro g ds turn x9 x10 ht
    have hP1 : 1 ≤ 1 + p := by omega
    generalize hP : 1 + p = P at *
    generalize hM : 1 + m = M at *
    have hrg := rngs_zero (P + M) (by omega)
    simp [ev, evs, evA, evAnd, evOr, evI, ex, exs, runF, shP, getV, getP, place, isTys, isTy, outsOf, List.range_succ, fillA, backA, hasBw, cmpD, binD, bltD, bLen, ixv, subD, wipeD, bindT, bindMany, seqD, putD, putI, backD, isLstAt, setP, cStep, fStep, Function.comp_def] at hrg
    have hc := cut_nat ((List.range (P + M)).map fun x : Nat => D.int (x : Nat))
    by_cases h0 : w = 0
    · subst h0
      by_cases h8 : 0 < turn
      · refine ⟨List.range (P + turn), true, lot_range _ _ (by omega) (by omega), by simp [ev, evs, evA, evAnd, evOr, evI, ex, exs, runF, shP, getV, getP, place, isTys, isTy, outsOf, List.range_succ, fillA, backA, hasBw, cmpD, binD, bltD, bLen, ixv, subD, wipeD, bindT, bindMany, seqD, putD, putI, backD, isLstAt, setP, cStep, fStep, Function.comp_def]; omega, fun rest => ?_⟩
        have hc' := hc (P + turn)
        rw [← List.map_take, List.take_range, Nat.min_eq_left (by omega)] at hc'
        simp [ev, evs, evA, evAnd, evOr, evI, ex, exs, runF, shP, getV, getP, place, isTys, isTy, outsOf, List.range_succ, fillA, backA, hasBw, cmpD, binD, bltD, bLen, ixv, subD, wipeD, bindT, bindMany, seqD, putD, putI, backD, isLstAt, setP, cStep, fStep, Function.comp_def] at hc'
        have h8' : (0 : Int) < (turn : Int) := by omega
        rw [exs_nx (env' := [g, .int (pm : Nat), .int (cm : Nat), .int (hm : Nat), .int (P : Nat), .int (M : Nat), .lst true ds, .int 0, .int (turn : Nat), ON (List.range (P + M)), x10, .hole]) (by simp [ev, evs, evA, evAnd, evOr, evI, ex, exs, runF, shP, getV, getP, place, isTys, isTy, outsOf, List.range_succ, fillA, backA, hasBw, cmpD, binD, bltD, bLen, ixv, subD, wipeD, bindT, bindMany, seqD, putD, putI, backD, isLstAt, setP, cStep, fStep, Function.comp_def, hrg])]
        rw [exs_nx (env' := [g, .int (pm : Nat), .int (cm : Nat), .int (hm : Nat), .int (P : Nat), .int (M : Nat), .lst true ds, .int 0, .int (turn : Nat), ON (List.range (P + turn)), x10, .hole]) (by simp [ev, evs, evA, evAnd, evOr, evI, ex, exs, runF, shP, getV, getP, place, isTys, isTy, outsOf, List.range_succ, fillA, backA, hasBw, cmpD, binD, bltD, bLen, ixv, subD, wipeD, bindT, bindMany, seqD, putD, putI, backD, isLstAt, setP, cStep, fStep, Function.comp_def, h8, slcD, hc'])]
        rw [exs_nx (env' := [g, .int (pm : Nat), .int (cm : Nat), .int (hm : Nat), .int (P : Nat), .int (M : Nat), .lst true ds, .int 0, .int (turn : Nat), ON (List.range (P + turn)), x10, .hole]) (by simp [ev, evs, evA, evAnd, evOr, evI, ex, exs, runF, shP, getV, getP, place, isTys, isTy, outsOf, List.range_succ, fillA, backA, hasBw, cmpD, binD, bltD, bLen, ixv, subD, wipeD, bindT, bindMany, seqD, putD, putI, backD, isLstAt, setP, cStep, fStep, Function.comp_def])]
      · refine ⟨List.range P, true, lot_range _ _ (by omega) (by omega), by simp [ev, evs, evA, evAnd, evOr, evI, ex, exs, runF, shP, getV, getP, place, isTys, isTy, outsOf, List.range_succ, fillA, backA, hasBw, cmpD, binD, bltD, bLen, ixv, subD, wipeD, bindT, bindMany, seqD, putD, putI, backD, isLstAt, setP, cStep, fStep, Function.comp_def]; omega, fun rest => ?_⟩
        have hc' := hc P
        rw [← List.map_take, List.take_range, Nat.min_eq_left (by omega)] at hc'
        have h8' : ¬ (0 : Int) < (turn : Int) := by omega
        rw [exs_nx (env' := [g, .int (pm : Nat), .int (cm : Nat), .int (hm : Nat), .int (P : Nat), .int (M : Nat), .lst true ds, .int 0, .int (turn : Nat), ON (List.range (P + M)), x10, .hole]) (by simp [ev, evs, evA, evAnd, evOr, evI, ex, exs, runF, shP, getV, getP, place, isTys, isTy, outsOf, List.range_succ, fillA, backA, hasBw, cmpD, binD, bltD, bLen, ixv, subD, wipeD, bindT, bindMany, seqD, putD, putI, backD, isLstAt, setP, cStep, fStep, Function.comp_def, hrg])]
        rw [exs_nx (env' := [g, .int (pm : Nat), .int (cm : Nat), .int (hm : Nat), .int (P : Nat), .int (M : Nat), .lst true ds, .int 0, .int (turn : Nat), ON (List.range P), x10, .hole]) (by simp [ev, evs, evA, evAnd, evOr, evI, ex, exs, runF, shP, getV, getP, place, isTys, isTy, outsOf, List.range_succ, fillA, backA, hasBw, cmpD, binD, bltD, bLen, ixv, subD, wipeD, bindT, bindMany, seqD, putD, putI, backD, isLstAt, setP, cStep, fStep, Function.comp_def, h8, slcD, hc'])]
        rw [exs_nx (env' := [g, .int (pm : Nat), .int (cm : Nat), .int (hm : Nat), .int (P : Nat), .int (M : Nat), .lst true ds, .int 0, .int (turn : Nat), ON (List.range P), x10, .hole]) (by simp [ev, evs, evA, evAnd, evOr, evI, ex, exs, runF, shP, getV, getP, place, isTys, isTy, outsOf, List.range_succ, fillA, backA, hasBw, cmpD, binD, bltD, bLen, ixv, subD, wipeD, bindT, bindMany, seqD, putD, putI, backD, isLstAt, setP, cStep, fStep, Function.comp_def])]
    · have h0' : (w == 0) = false := by simpa [ev, evs, evA, evAnd, evOr, evI, ex, exs, runF, shP, getV, getP, place, isTys, isTy, outsOf, List.range_succ, fillA, backA, hasBw, cmpD, binD, bltD, bLen, ixv, subD, wipeD, bindT, bindMany, seqD, putD, putI, backD, isLstAt, setP, cStep, fStep, Function.comp_def] using h0
      by_cases h1 : w = 1
      · subst h1
        have c1 : ev (evF prog (n + 4)) [0] F._law_holdings.c1 [g, .int (pm : Nat), .int (cm : Nat), .int (hm : Nat), .int (P : Nat), .int (M : Nat), .lst true ds, .int 1, .int (turn : Nat), ON (List.range (P + M)), x10, .hole] = some (.lst true ((List.range (P + M)).filterMap fun x => if P ≤ x ∨ x = 0 then some (.int (x : Nat)) else none), [g, .int (pm : Nat), .int (cm : Nat), .int (hm : Nat), .int (P : Nat), .int (M : Nat), .lst true ds, .int 1, .int (turn : Nat), LN (List.range (P + M)), x10, .hole]) := by
          refine (comp_filt (env1 := [g, .int (pm : Nat), .int (cm : Nat), .int (hm : Nat), .int (P : Nat), .int (M : Nat), .lst true ds, .int 1, .int (turn : Nat), LN (List.range (P + M)), x10, .hole]) (r := none) (xs := List.range (P + M)) (fun x : Nat => D.int (x : Nat)) (fun x => if P ≤ x ∨ x = 0 then some (.int (x : Nat)) else none) ?_ fun x hx => ?_).trans ?_
          · simp [ev, evs, evA, evAnd, evOr, evI, ex, exs, runF, shP, getV, getP, place, isTys, isTy, outsOf, List.range_succ, fillA, backA, hasBw, cmpD, binD, bltD, bLen, ixv, subD, wipeD, bindT, bindMany, seqD, putD, putI, backD, isLstAt, setP, cStep, fStep, Function.comp_def]
          · by_cases q1 : P ≤ x
            · simp [ev, evs, evA, evAnd, evOr, evI, ex, exs, runF, shP, getV, getP, place, isTys, isTy, outsOf, List.range_succ, fillA, backA, hasBw, cmpD, binD, bltD, bLen, ixv, subD, wipeD, bindT, bindMany, seqD, putD, putI, backD, isLstAt, setP, cStep, fStep, Function.comp_def, q1]
            · by_cases q2 : x = 0
              · subst q2
                have hP0 : ¬ P = 0 := by omega
                simp [ev, evs, evA, evAnd, evOr, evI, ex, exs, runF, shP, getV, getP, place, isTys, isTy, outsOf, List.range_succ, fillA, backA, hasBw, cmpD, binD, bltD, bLen, ixv, subD, wipeD, bindT, bindMany, seqD, putD, putI, backD, isLstAt, setP, cStep, fStep, Function.comp_def, q1, hP0]
              · have : ((x : Int) == 0) = false := by rw [beq_eq_false_iff_ne]; omega
                simp [ev, evs, evA, evAnd, evOr, evI, ex, exs, runF, shP, getV, getP, place, isTys, isTy, outsOf, List.range_succ, fillA, backA, hasBw, cmpD, binD, bltD, bLen, ixv, subD, wipeD, bindT, bindMany, seqD, putD, putI, backD, isLstAt, setP, cStep, fStep, Function.comp_def, q1, q2, this]
          · simp [ev, evs, evA, evAnd, evOr, evI, ex, exs, runF, shP, getV, getP, place, isTys, isTy, outsOf, List.range_succ, fillA, backA, hasBw, cmpD, binD, bltD, bLen, ixv, subD, wipeD, bindT, bindMany, seqD, putD, putI, backD, isLstAt, setP, cStep, fStep, Function.comp_def]
        rw [filterMap_if] at c1
        refine ⟨(List.range (P + M)).filter fun x => decide (P ≤ x ∨ x = 0), true, ⟨List.nodup_range.filter _, fun x hx => by have := List.mem_range.mp (List.mem_filter.mp hx).1; omega, fun z => ?_⟩, Nat.le_trans (List.length_filter_le _ _) (by simp [ev, evs, evA, evAnd, evOr, evI, ex, exs, runF, shP, getV, getP, place, isTys, isTy, outsOf, List.range_succ, fillA, backA, hasBw, cmpD, binD, bltD, bLen, ixv, subD, wipeD, bindT, bindMany, seqD, putD, putI, backD, isLstAt, setP, cStep, fStep, Function.comp_def]; omega), fun rest => ?_⟩
        · have : 0 ∈ (List.range (P + M)).filter fun x => decide (P ≤ x ∨ x = 0) := List.mem_filter.mpr ⟨List.mem_range.mpr (by omega), by simp [ev, evs, evA, evAnd, evOr, evI, ex, exs, runF, shP, getV, getP, place, isTys, isTy, outsOf, List.range_succ, fillA, backA, hasBw, cmpD, binD, bltD, bLen, ixv, subD, wipeD, bindT, bindMany, seqD, putD, putI, backD, isLstAt, setP, cStep, fStep, Function.comp_def]⟩
          rw [z] at this; cases this
        · rw [exs_nx (env' := [g, .int (pm : Nat), .int (cm : Nat), .int (hm : Nat), .int (P : Nat), .int (M : Nat), .lst true ds, .int 1, .int (turn : Nat), ON (List.range (P + M)), x10, .hole]) (by simp [ev, evs, evA, evAnd, evOr, evI, ex, exs, runF, shP, getV, getP, place, isTys, isTy, outsOf, List.range_succ, fillA, backA, hasBw, cmpD, binD, bltD, bLen, ixv, subD, wipeD, bindT, bindMany, seqD, putD, putI, backD, isLstAt, setP, cStep, fStep, Function.comp_def, hrg])]
          rw [exs_nx (env' := [g, .int (pm : Nat), .int (cm : Nat), .int (hm : Nat), .int (P : Nat), .int (M : Nat), .lst true ds, .int 1, .int (turn : Nat), ON (List.range (P + M)), x10, .hole]) (by simp [ev, evs, evA, evAnd, evOr, evI, ex, exs, runF, shP, getV, getP, place, isTys, isTy, outsOf, List.range_succ, fillA, backA, hasBw, cmpD, binD, bltD, bLen, ixv, subD, wipeD, bindT, bindMany, seqD, putD, putI, backD, isLstAt, setP, cStep, fStep, Function.comp_def])]
          simp only [ON] at c1 ⊢
          rw [exs_nx (show _ = some (Fl.nx _) by simp [ev, evs, evA, evAnd, evOr, evI, ex, exs, runF, shP, getV, getP, place, isTys, isTy, outsOf, List.range_succ, fillA, backA, hasBw, cmpD, binD, bltD, bLen, ixv, subD, wipeD, bindT, bindMany, seqD, putD, putI, backD, isLstAt, setP, cStep, fStep, Function.comp_def, c1]; rfl)]
          simp only [Bool.decide_or]
      · have h1' : (w == 1) = false := by simpa [ev, evs, evA, evAnd, evOr, evI, ex, exs, runF, shP, getV, getP, place, isTys, isTy, outsOf, List.range_succ, fillA, backA, hasBw, cmpD, binD, bltD, bLen, ixv, subD, wipeD, bindT, bindMany, seqD, putD, putI, backD, isLstAt, setP, cStep, fStep, Function.comp_def] using h1
        refine ⟨List.range (P + M), true, lot_range _ _ (by omega) (by omega), by simp [ev, evs, evA, evAnd, evOr, evI, ex, exs, runF, shP, getV, getP, place, isTys, isTy, outsOf, List.range_succ, fillA, backA, hasBw, cmpD, binD, bltD, bLen, ixv, subD, wipeD, bindT, bindMany, seqD, putD, putI, backD, isLstAt, setP, cStep, fStep, Function.comp_def]; omega, fun rest => ?_⟩
        rw [exs_nx (env' := [g, .int (pm : Nat), .int (cm : Nat), .int (hm : Nat), .int (P : Nat), .int (M : Nat), .lst true ds, .int w, .int (turn : Nat), ON (List.range (P + M)), x10, .hole]) (by simp [ev, evs, evA, evAnd, evOr, evI, ex, exs, runF, shP, getV, getP, place, isTys, isTy, outsOf, List.range_succ, fillA, backA, hasBw, cmpD, binD, bltD, bLen, ixv, subD, wipeD, bindT, bindMany, seqD, putD, putI, backD, isLstAt, setP, cStep, fStep, Function.comp_def, hrg])]
        rw [exs_nx (env' := [g, .int (pm : Nat), .int (cm : Nat), .int (hm : Nat), .int (P : Nat), .int (M : Nat), .lst true ds, .int w, .int (turn : Nat), ON (List.range (P + M)), x10, .hole]) (by simp [ev, evs, evA, evAnd, evOr, evI, ex, exs, runF, shP, getV, getP, place, isTys, isTy, outsOf, List.range_succ, fillA, backA, hasBw, cmpD, binD, bltD, bLen, ixv, subD, wipeD, bindT, bindMany, seqD, putD, putI, backD, isLstAt, setP, cStep, fStep, Function.comp_def, h0'])]
        rw [exs_nx (env' := [g, .int (pm : Nat), .int (cm : Nat), .int (hm : Nat), .int (P : Nat), .int (M : Nat), .lst true ds, .int w, .int (turn : Nat), ON (List.range (P + M)), x10, .hole]) (by simp [ev, evs, evA, evAnd, evOr, evI, ex, exs, runF, shP, getV, getP, place, isTys, isTy, outsOf, List.range_succ, fillA, backA, hasBw, cmpD, binD, bltD, bLen, ixv, subD, wipeD, bindT, bindMany, seqD, putD, putI, backD, isLstAt, setP, cStep, fStep, Function.comp_def, h1'])]
  obtain ⟨a, b, c, rfl, _⟩ := id hg
  obtain ⟨a1, b1, c1, rfl, _⟩ := id hg1
  obtain ⟨a2, b2, c2, rfl, _⟩ := id hg2
  obtain ⟨a3, b3, c3, rfl, _⟩ := id hg3
  obtain ⟨env', e4, g4, ds, cs, x8, x9, x10, rfl, hg4, hds, hcl, hco⟩ := for_rel (Γ := evF prog (n + 4)) (ios := [0]) (tg := .nm 8) (body := F._law_holdings.b1) (it := .rng1 (.sh 5)) (env := [G a3 b3 c3, .int (pm : Nat), .int (cm : Nat), .int (hm : Nat), .int ((1 + p : Nat) : Nat), .int ((1 + m : Nat) : Nat), .lst true [], .int w, .hole, .hole, .hole, .hole]) (env1 := [G a3 b3 c3, .int (pm : Nat), .int (cm : Nat), .int (hm : Nat), .int ((1 + p : Nat) : Nat), .int ((1 + m : Nat) : Nat), .lst true [], .int w, .hole, .hole, .hole, .hole]) (r := none) (xs := List.range (1 + m)) (fun i : Nat => D.int (i : Nat))
    (fun j env => ∃ (g : D) (ds : List D) (cs : List (List Nat × List Nat)) (x8 x9 x10 : D), env = [g, .int (pm : Nat), .int (cm : Nat), .int (hm : Nat), .int ((1 + p : Nat) : Nat), .int ((1 + m : Nat) : Nat), .lst true ds, .int w, x8, x9, x10, .hole] ∧ Gen (N + 300 + 20000 * j) g ∧ ds.map share = cs.map dCo ∧ cs.length = j ∧ ∀ c ∈ cs, okCo (1 + p + (1 + m)) c)
    (by
      have := rngs_zero (1 + m) (by omega)
      simp only [evI, ev, getV, List.getElem?_cons_succ, List.getElem?_cons_zero, Option.map_some, share_int, List.set, Option.bind_some, this]) ⟨_, [], [], .hole, .hole, .hole, rfl, hg3.mono (by omega), rfl, rfl, by simp [ev, evs, evA, evAnd, evOr, evI, ex, exs, runF, shP, getV, getP, place, isTys, isTy, outsOf, List.range_succ, fillA, backA, hasBw, cmpD, binD, bltD, bLen, ixv, subD, wipeD, bindT, bindMany, seqD, putD, putI, backD, isLstAt, setP, cStep, fStep, Function.comp_def]⟩ (by
      rintro j env t ht ⟨g, ds, cs, x8, x9, x10, rfl, h1, h2, h3, h4⟩
      have hj : j < 1 + m := by have := (List.getElem?_eq_some_iff.mp ht).1; simpa [ev, evs, evA, evAnd, evOr, evI, ex, exs, runF, shP, getV, getP, place, isTys, isTy, outsOf, List.range_succ, fillA, backA, hasBw, cmpD, binD, bltD, bLen, ixv, subD, wipeD, bindT, bindMany, seqD, putD, putI, backD, isLstAt, setP, cStep, fStep, Function.comp_def] using this
      have htj : t = j := by
        obtain ⟨_, h⟩ := List.getElem?_eq_some_iff.mp ht
        simpa [ev, evs, evA, evAnd, evOr, evI, ex, exs, runF, shP, getV, getP, place, isTys, isTy, outsOf, List.range_succ, fillA, backA, hasBw, cmpD, binD, bltD, bLen, ixv, subD, wipeD, bindT, bindMany, seqD, putD, putI, backD, isLstAt, setP, cStep, fStep, Function.comp_def] using h.symm
      subst htj
      obtain ⟨lot, o, ol, ll, el⟩ := lot_ok g ds t x9 x10 hj
      obtain ⟨ms, g1, g2, g3, r, hs, d, co, hg3, oco, hd, rfl, f1, f2, f3, f4, ⟨u1, v1, t1, rfl⟩, ⟨u2, v2, t2, rfl⟩, ⟨u3, v3, t3, rfl⟩⟩ := drawn_co n (hm := hm) h1 (by omega) ol ll hh1 hh6
      have hcn := cut_nat (ms.map D.int) (1 + r)
      have hlt : ds.length < lim := lt_lim (by have := congrArg List.length h2; simp [ev, evs, evA, evAnd, evOr, evI, ex, exs, runF, shP, getV, getP, place, isTys, isTy, outsOf, List.range_succ, fillA, backA, hasBw, cmpD, binD, bltD, bLen, ixv, subD, wipeD, bindT, bindMany, seqD, putD, putI, backD, isLstAt, setP, cStep, fStep, Function.comp_def] at this; omega)
      have hdne : d ≠ .hole := by rintro rfl; simp [ev, evs, evA, evAnd, evOr, evI, ex, exs, runF, shP, getV, getP, place, isTys, isTy, outsOf, List.range_succ, fillA, backA, hasBw, cmpD, binD, bltD, bLen, ixv, subD, wipeD, bindT, bindMany, seqD, putD, putI, backD, isLstAt, setP, cStep, fStep, Function.comp_def] at hd
      obtain ⟨ua, va, ta, rfl, _⟩ := id h1
      refine ⟨[G u3 v3 t3, .int (pm : Nat), .int (cm : Nat), .int (hm : Nat), .int ((1 + p : Nat) : Nat), .int ((1 + m : Nat) : Nat), .lst true (ds ++ [.tup [LN co.1, d]]), .int w, .int (t : Nat), LN lot, LN co.1, .hole], ?_, _, _, cs ++ [co], _, _, _, rfl, hg3.mono (by omega), shareL_snoc h2 (by rw [share_pair, share_LN, hd]), by simp [ev, evs, evA, evAnd, evOr, evI, ex, exs, runF, shP, getV, getP, place, isTys, isTy, outsOf, List.range_succ, fillA, backA, hasBw, cmpD, binD, bltD, bLen, ixv, subD, wipeD, bindT, bindMany, seqD, putD, putI, backD, isLstAt, setP, cStep, fStep, Function.comp_def, h3], fun c hc => ?_⟩
      · have e0 : fStep (evF prog (n + 4)) [0] none (.nm 8) F._law_holdings.b1 [G ua va ta, .int (pm : Nat), .int (cm : Nat), .int (hm : Nat), .int ((1 + p : Nat) : Nat), .int ((1 + m : Nat) : Nat), .lst true ds, .int w, x8, x9, x10, .hole] (.int (t : Nat)) = exs (evF prog (n + 4)) [0] F._law_holdings.b1 [G ua va ta, .int (pm : Nat), .int (cm : Nat), .int (hm : Nat), .int ((1 + p : Nat) : Nat), .int ((1 + m : Nat) : Nat), .lst true ds, .int w, .int (t : Nat), x9, x10, .hole] := by rfl
        rw [e0, F._law_holdings.b1, el]
        have hcr : ((1 : Int) + (r : Int)) = ((1 + r : Nat) : Int) := by omega
        rw [exs_nx (env' := [G u2 v2 t2, .int (pm : Nat), .int (cm : Nat), .int (hm : Nat), .int ((1 + p : Nat) : Nat), .int ((1 + m : Nat) : Nat), .lst true ds, .int w, .int (t : Nat), LN lot, ON co.1, .hole]) (by
          simp [ev, evs, evA, evAnd, evOr, evI, ex, exs, runF, shP, getV, getP, place, isTys, isTy, outsOf, List.range_succ, fillA, backA, hasBw, cmpD, binD, bltD, bLen, ixv, subD, wipeD, bindT, bindMany, seqD, putD, putI, backD, isLstAt, setP, cStep, fStep, Function.comp_def, -Int.natCast_add, f1, f2]
          rw [hcr]
          simp [ev, evs, evA, evAnd, evOr, evI, ex, exs, runF, shP, getV, getP, place, isTys, isTy, outsOf, List.range_succ, fillA, backA, hasBw, cmpD, binD, bltD, bLen, ixv, subD, wipeD, bindT, bindMany, seqD, putD, putI, backD, isLstAt, setP, cStep, fStep, Function.comp_def, -Int.natCast_add, slcD, hcn, f3])]
        have f4' : evF prog (n + 4) 36 [G u2 v2 t2, .int (co.1.length : Nat)] = _ := f4
        rw [exs_nx (env' := [G u3 v3 t3, .int (pm : Nat), .int (cm : Nat), .int (hm : Nat), .int ((1 + p : Nat) : Nat), .int ((1 + m : Nat) : Nat), .lst true (ds ++ [.tup [LN co.1, d]]), .int w, .int (t : Nat), LN lot, LN co.1, .hole]) (by simp [ev, evs, evA, evAnd, evOr, evI, ex, exs, runF, shP, getV, getP, place, isTys, isTy, outsOf, List.range_succ, fillA, backA, hasBw, cmpD, binD, bltD, bLen, ixv, subD, wipeD, bindT, bindMany, seqD, putD, putI, backD, isLstAt, setP, cStep, fStep, Function.comp_def, -Int.natCast_add, f4', le_lim, hlt])]
        rfl
      · rcases List.mem_append.mp hc with hc | hc
        · exact h4 c hc
        · rw [List.mem_singleton.mp hc]; exact oco)
  rw [List.length_range] at hg4 hcl
  refine ⟨.tup [.int ((1 + p : Nat) : Nat), .lst true ds], g4, 1 + p, cs, by rw [share_pair, share_ds hds]; rfl, ⟨by omega, by omega, by omega, by omega, by rw [hcl]; exact hco⟩, hg4.mono (by omega), ?_⟩
  obtain ⟨a4, b4, c4, rfl, _⟩ := id hg4
  have e4' : ex (evF prog (n + 4)) [0] F._law_holdings.l1 [G a3 b3 c3, .int (pm : Nat), .int (cm : Nat), .int (hm : Nat), .int ((1 + p : Nat) : Nat), .int ((1 + m : Nat) : Nat), .lst true [], .int w, .hole, .hole, .hole, .hole] = _ := e4
  have q1 : ((1 : Int) + (p : Int)) = ((1 + p : Nat) : Int) := by omega
  have q2 : ((1 : Int) + (m : Int)) = ((1 + m : Nat) : Int) := by omega
  show runF (evF prog (n + 4)) F._law_holdings [_, _, _, _] = _
  simp only [Int.natCast_add] at e4'
  simp [ev, evs, evA, evAnd, evOr, evI, ex, exs, runF, shP, getV, getP, place, isTys, isTy, outsOf, List.range_succ, fillA, backA, hasBw, cmpD, binD, bltD, bLen, ixv, subD, wipeD, bindT, bindMany, seqD, putD, putI, backD, isLstAt, setP, cStep, fStep, Function.comp_def, F._law_holdings, e1, e2, e3, le_lim]
  simp [ev, evs, evA, evAnd, evOr, evI, ex, exs, runF, shP, getV, getP, place, isTys, isTy, outsOf, List.range_succ, fillA, backA, hasBw, cmpD, binD, bltD, bLen, ixv, subD, wipeD, bindT, bindMany, seqD, putD, putI, backD, isLstAt, setP, cStep, fStep, Function.comp_def] at e4'
  simp [ev, evs, evA, evAnd, evOr, evI, ex, exs, runF, shP, getV, getP, place, isTys, isTy, outsOf, List.range_succ, fillA, backA, hasBw, cmpD, binD, bltD, bLen, ixv, subD, wipeD, bindT, bindMany, seqD, putD, putI, backD, isLstAt, setP, cStep, fStep, Function.comp_def, e4', le_lim]
end K81

namespace K81
open OE PySem PySem.Spec PyProof.Rows L2

theorem lawnum_ok (n : Nat) {v w : D} {k : Nat} {b : List Nat} (hv : share v = T2 k) (hw : share w = LN b) (hb : bitl k b) (hk : k ≤ 100) : evF prog (n + 1) 33 [v, w] = some (.int (num b : Nat), [.hole, .hole]) := by
  obtain ⟨env', e, x, rfl⟩ := for_rel (Γ := evF prog n) (ios := []) (tg := .nm 3) (body := F._law_number_in.b1) (it := .rng1 (.len 0 [])) (env := [T2 k, LN b, .int 0, .hole]) (env1 := [T2 k, LN b, .int 0, .hole]) (r := none) (xs := List.range k) (fun i : Nat => D.int (i : Nat))
    (fun j env => ∃ x, env = [T2 k, LN b, .int (num (b.take j) : Nat), x]) (by simp [ev, evs, evA, evAnd, evOr, evI, ex, exs, runF, shP, getV, getP, place, isTys, isTy, outsOf, List.range_succ, fillA, backA, hasBw, cmpD, binD, bltD, bLen, ixv, subD, wipeD, bindT, bindMany, seqD, putD, putI, backD, isLstAt, setP, cStep, fStep, Function.comp_def, rngs_zero k (by omega)]) ⟨.hole, by simp [ev, evs, evA, evAnd, evOr, evI, ex, exs, runF, shP, getV, getP, place, isTys, isTy, outsOf, List.range_succ, fillA, backA, hasBw, cmpD, binD, bltD, bLen, ixv, subD, wipeD, bindT, bindMany, seqD, putD, putI, backD, isLstAt, setP, cStep, fStep, Function.comp_def, num]⟩ (by
      rintro j env x hx ⟨y, rfl⟩
      obtain ⟨hj, h3⟩ := List.getElem?_eq_some_iff.mp hx
      simp only [List.length_range] at hj
      simp only [List.getElem_range] at h3
      subst h3
      have hjb : j < b.length := by rw [hb.1]; exact hj
      have g1 : b[j]? = some b[j] := List.getElem?_eq_getElem hjb
      have ht : num (b.take (j + 1)) = num (b.take j) * 2 + b[j] := by rw [List.take_add_one, g1]; exact num_snoc _ _
      have hlt : num (b.take j) < 2 ^ 100 := by
        have h4 : bitl j (b.take j) := ⟨by rw [List.length_take]; omega, fun x hx => hb.2 x (List.mem_of_mem_take hx)⟩
        exact Nat.lt_of_lt_of_le (num_lt h4) (Nat.pow_le_pow_right (by decide) (by omega))
      have hm : mulOk (num (b.take j) : Nat) 2 = true := mulOk_of 100 2 (by rw [Int.natAbs_natCast]; exact hlt) (by decide) (by decide)
      refine ⟨_, ?_, .int j, rfl⟩
      rw [ht]
      simp [ev, evs, evA, evAnd, evOr, evI, ex, exs, runF, shP, getV, getP, place, isTys, isTy, outsOf, List.range_succ, fillA, backA, hasBw, cmpD, binD, bltD, bLen, ixv, subD, wipeD, bindT, bindMany, seqD, putD, putI, backD, isLstAt, setP, cStep, fStep, Function.comp_def, F._law_number_in.b1, hm, g1, List.getElem?_replicate, hj])
  simp only [List.length_range] at e
  rw [List.take_of_length_le (by rw [hb.1]; omega)] at e
  have e' : ex (evF prog n) [] F._law_number_in.l1 [T2 k, LN b, .int 0, .hole] = _ := e
  show runF (evF prog n) F._law_number_in [_, _] = _
  simp [ev, evs, evA, evAnd, evOr, evI, ex, exs, runF, shP, getV, getP, place, isTys, isTy, outsOf, List.range_succ, fillA, backA, hasBw, cmpD, binD, bltD, bLen, ixv, subD, wipeD, bindT, bindMany, seqD, putD, putI, backD, isLstAt, setP, cStep, fStep, Function.comp_def, F._law_number_in, hv, hw, e']
theorem lawans_ok (n : Nat) {u v w : D} {p : Nat} {cs : List (List Nat × List Nat)} {cr t : List Nat} (hu : share u = cH p cs) (hv : share v = LN cr) (hw : share w = LN t) (ok : okH p cs) (ht : bitl cs.length t) : evF prog (n + 2) 38 [u, v, w] = some (ON (fH p cs cr t), [.hole, .hole, .hole]) := by
  have p6 := ok.p6
  have c8 := ok.c8
  have c1 : ev (evF prog (n + 1)) [] F._law_answers.c1 [cH p cs, LN cr, LN t, .hole, .hole, .hole, .hole, .hole] = some (ON (bits p cr), [cH p cs, LN cr, LN t, .hole, .hole, .hole, .hole, .hole]) := by
    refine (comp_map (env1 := [cH p cs, LN cr, LN t, .hole, .hole, .hole, .hole, .hole]) (r := none) (xs := List.range p) (fun i : Nat => D.int (i : Nat)) (fun i => .int ((if i ∈ cr then 1 else 0 : Nat) : Nat)) ?_ fun i hi => ?_).trans ?_
    · simp [ev, evs, evA, evAnd, evOr, evI, ex, exs, runF, shP, getV, getP, place, isTys, isTy, outsOf, List.range_succ, fillA, backA, hasBw, cmpD, binD, bltD, bLen, ixv, subD, wipeD, bindT, bindMany, seqD, putD, putI, backD, isLstAt, setP, cStep, fStep, Function.comp_def, rngs_zero p (by omega)]
    · have := any_cast i cr
      by_cases h : i ∈ cr
      · simp only [h, decide_true] at this
        simp [ev, evs, evA, evAnd, evOr, evI, ex, exs, runF, shP, getV, getP, place, isTys, isTy, outsOf, List.range_succ, fillA, backA, hasBw, cmpD, binD, bltD, bLen, ixv, subD, wipeD, bindT, bindMany, seqD, putD, putI, backD, isLstAt, setP, cStep, fStep, Function.comp_def, this, h, bInt]
      · simp only [h, decide_false] at this
        simp [ev, evs, evA, evAnd, evOr, evI, ex, exs, runF, shP, getV, getP, place, isTys, isTy, outsOf, List.range_succ, fillA, backA, hasBw, cmpD, binD, bltD, bLen, ixv, subD, wipeD, bindT, bindMany, seqD, putD, putI, backD, isLstAt, setP, cStep, fStep, Function.comp_def, this, h, bInt]
    · simp [ev, evs, evA, evAnd, evOr, evI, ex, exs, runF, shP, getV, getP, place, isTys, isTy, outsOf, List.range_succ, fillA, backA, hasBw, cmpD, binD, bltD, bLen, ixv, subD, wipeD, bindT, bindMany, seqD, putD, putI, backD, isLstAt, setP, cStep, fStep, Function.comp_def, bits]
  have hsb : bitl (p + cs.length) (bits p cr ++ t) := by
    have hb := bits_ok p cr
    exact ⟨by rw [List.length_append, hb.1, ht.1], fun x hx => by
      rcases List.mem_append.mp hx with hx | hx
      · exact hb.2 x hx
      · exact ht.2 x hx⟩
  have c3 : ev (evF prog (n + 1)) [] F._law_answers.c3 [cH p cs, LN cr, LN t, .lst true ((bits p cr ++ t).map fun x : Nat => .int (x : Nat)), .hole, .hole, .hole, .hole] = some (ON (fH p cs cr t), [cH p cs, LN cr, LN t, .lst true ((bits p cr ++ t).map fun x : Nat => .int (x : Nat)), .hole, .hole, .hole, .hole]) := by
    generalize hsd : bits p cr ++ t = said at *
    refine (comp_map (env1 := [cH p cs, LN cr, LN t, ON said, .hole, .hole, .hole, .hole]) (r := none) (xs := cs) dCo (fun c => .int (ansOne said c : Nat)) ?_ fun c hc => ?_).trans ?_
    · simp [ev, evs, evA, evAnd, evOr, evI, ex, exs, runF, shP, getV, getP, place, isTys, isTy, outsOf, List.range_succ, fillA, backA, hasBw, cmpD, binD, bltD, bLen, ixv, subD, wipeD, bindT, bindMany, seqD, putD, putI, backD, isLstAt, setP, cStep, fStep, Function.comp_def]
    · have oc := ok.co c hc
      have l6 := oc.l6
      have c2 : ev (evF prog (n + 1)) [] F._law_answers.c2 [cH p cs, LN cr, LN t, ON said, .hole, LN c.1, LN c.2, .hole] = some (.lst true ((c.1.map fun h => (said[h]?).getD 0).map fun x : Nat => .int (x : Nat)), [cH p cs, LN cr, LN t, ON said, .hole, LN c.1, LN c.2, .hole]) := by
        refine (comp_map (env1 := [cH p cs, LN cr, LN t, ON said, .hole, LN c.1, LN c.2, .hole]) (r := none) (xs := c.1) (fun x : Nat => D.int (x : Nat)) (fun h => .int ((said[h]?).getD 0 : Nat)) ?_ fun h hh => ?_).trans ?_
        · simp [ev, evs, evA, evAnd, evOr, evI, ex, exs, runF, shP, getV, getP, place, isTys, isTy, outsOf, List.range_succ, fillA, backA, hasBw, cmpD, binD, bltD, bLen, ixv, subD, wipeD, bindT, bindMany, seqD, putD, putI, backD, isLstAt, setP, cStep, fStep, Function.comp_def]
        · have hb := oc.bd h hh
          have hb' : h < said.length := by rw [hsb.1]; exact hb
          have g1 : said[h]? = some said[h] := List.getElem?_eq_getElem hb'
          simp [ev, evs, evA, evAnd, evOr, evI, ex, exs, runF, shP, getV, getP, place, isTys, isTy, outsOf, List.range_succ, fillA, backA, hasBw, cmpD, binD, bltD, bLen, ixv, subD, wipeD, bindT, bindMany, seqD, putD, putI, backD, isLstAt, setP, cStep, fStep, Function.comp_def, g1]
        · simp [ev, evs, evA, evAnd, evOr, evI, ex, exs, runF, shP, getV, getP, place, isTys, isTy, outsOf, List.range_succ, fillA, backA, hasBw, cmpD, binD, bltD, bLen, ixv, subD, wipeD, bindT, bindMany, seqD, putD, putI, backD, isLstAt, setP, cStep, fStep, Function.comp_def]
      have hbits := said_bits (hs := c.1) hsb.2
      have nm := lawnum_ok n (v := .lst true (List.replicate c.1.length (.int 2))) (w := .lst true ((c.1.map fun h => (said[h]?).getD 0).map fun x : Nat => .int (x : Nat))) (share_T2 _ _) (share_LN _ _) hbits (by omega)
      have hlt := num_lt hbits
      have g2 : c.2[num (c.1.map fun h => (said[h]?).getD 0)]? = some (ansOne said c) := by
        have : num (c.1.map fun h => (said[h]?).getD 0) < c.2.length := by rw [oc.rl]; exact hlt
        rw [ansOne, List.getElem?_eq_getElem this]; rfl
      have hr := repOk_one (x := .int 2) rfl c.1.length (by omega)
      generalize (c.1.map fun h => (said[h]?).getD 0) = bb at c2 nm g2
      simp only [ON] at c2
      simp [ev, evs, evA, evAnd, evOr, evI, ex, exs, runF, shP, getV, getP, place, isTys, isTy, outsOf, List.range_succ, fillA, backA, hasBw, cmpD, binD, bltD, bLen, ixv, subD, wipeD, bindT, bindMany, seqD, putD, putI, backD, isLstAt, setP, cStep, fStep, Function.comp_def, c2, hr, flat_rep, le_lim, nm, g2]
    · simp [ev, evs, evA, evAnd, evOr, evI, ex, exs, runF, shP, getV, getP, place, isTys, isTy, outsOf, List.range_succ, fillA, backA, hasBw, cmpD, binD, bltD, bLen, ixv, subD, wipeD, bindT, bindMany, seqD, putD, putI, backD, isLstAt, setP, cStep, fStep, Function.comp_def, fH, ans, hsd]
  have hl : (bits p cr).length + t.length ≤ lim := le_lim (by rw [(bits_ok p cr).1, ht.1]; omega)
  show runF (evF prog (n + 1)) F._law_answers [_, _, _] = _
  simp only [ON, List.map_append] at c1 c3
  simp [ev, evs, evA, evAnd, evOr, evI, ex, exs, runF, shP, getV, getP, place, isTys, isTy, outsOf, List.range_succ, fillA, backA, hasBw, cmpD, binD, bltD, bLen, ixv, subD, wipeD, bindT, bindMany, seqD, putD, putI, backD, isLstAt, setP, cStep, fStep, Function.comp_def, F._law_answers, hu, hv, hw, c1, bList, hl, c3]
theorem lots_eq (b : List Nat) : ∀ k : Nat, ((b.zipIdx k).filter fun q => q.1 == 1).map (·.2) = ((List.range b.length).filter fun i => (b[i]?).getD 0 == 1).map (k + ·) := by
  induction b with
  | nil => intro k; rfl
  | cons x b ih =>
    intro k
    rw [List.zipIdx_cons, List.length_cons, List.range_succ_eq_map, List.filter_cons, List.filter_cons, List.filter_map]
    have e : ((List.range b.length).filter ((fun i => ((x :: b)[i]?).getD 0 == 1) ∘ Nat.succ)) = (List.range b.length).filter fun i => (b[i]?).getD 0 == 1 := List.filter_congr fun i _ => by simp [ev, evs, evA, evAnd, evOr, evI, ex, exs, runF, shP, getV, getP, place, isTys, isTy, outsOf, List.range_succ, fillA, backA, hasBw, cmpD, binD, bltD, bLen, ixv, subD, wipeD, bindT, bindMany, seqD, putD, putI, backD, isLstAt, setP, cStep, fStep, Function.comp_def]
    have e2 : ∀ l : List Nat, (l.map Nat.succ).map (k + ·) = l.map (k + 1 + ·) := fun l => by rw [List.map_map]; exact List.map_congr_left fun i _ => by simp [ev, evs, evA, evAnd, evOr, evI, ex, exs, runF, shP, getV, getP, place, isTys, isTy, outsOf, List.range_succ, fillA, backA, hasBw, cmpD, binD, bltD, bLen, ixv, subD, wipeD, bindT, bindMany, seqD, putD, putI, backD, isLstAt, setP, cStep, fStep, Function.comp_def, Function.comp]; omega
    by_cases h : x = 1
    · subst h
      simp only [List.getElem?_cons_zero, Option.getD_some, beq_self_eq_true, if_true, List.map_cons, ih, e, e2]
      simp [ev, evs, evA, evAnd, evOr, evI, ex, exs, runF, shP, getV, getP, place, isTys, isTy, outsOf, List.range_succ, fillA, backA, hasBw, cmpD, binD, bltD, bLen, ixv, subD, wipeD, bindT, bindMany, seqD, putD, putI, backD, isLstAt, setP, cStep, fStep, Function.comp_def]
    · have h' : (x == 1) = false := by simpa [ev, evs, evA, evAnd, evOr, evI, ex, exs, runF, shP, getV, getP, place, isTys, isTy, outsOf, List.range_succ, fillA, backA, hasBw, cmpD, binD, bltD, bLen, ixv, subD, wipeD, bindT, bindMany, seqD, putD, putI, backD, isLstAt, setP, cStep, fStep, Function.comp_def] using h
      simp only [List.getElem?_cons_zero, Option.getD_some, h', Bool.false_eq_true, if_false, ih, e, e2]
theorem yes_eq (b : List Nat) : yes b = (List.range b.length).filter fun i => (b[i]?).getD 0 == 1 := by
  rw [yes, lots_eq b 0]; simp [ev, evs, evA, evAnd, evOr, evI, ex, exs, runF, shP, getV, getP, place, isTys, isTy, outsOf, List.range_succ, fillA, backA, hasBw, cmpD, binD, bltD, bLen, ixv, subD, wipeD, bindT, bindMany, seqD, putD, putI, backD, isLstAt, setP, cStep, fStep, Function.comp_def]
theorem yes_cr {p : Nat} {b : List Nat} (hb : bitl p b) : okCr p (yes b) := by
  rw [yes_eq, hb.1]
  exact ⟨List.pairwise_lt_range.filter _, fun x hx => List.mem_range.mp (List.mem_filter.mp hx).1⟩
theorem lots_ok (n : Nat) {p : Nat} (hp : p ≤ 16) : evF prog (n + 2) 40 [.int (p : Nat)] = some (.lst true ((B2 p).map fun b => ON (yes b)), [.hole]) := by
  obtain ⟨o, hlb⟩ := lawb2 n (c := .lst true (List.replicate p (.int 2))) (k := p) (share_T2 _ _) hp
  have hr := repOk_one (x := .int 2) rfl p (by omega)
  have c1 : ∀ b ∈ B2 p, ev (evF prog (n + 1)) [] F._law_all_lots.c1 [.int (p : Nat), TN b, .hole] = some (ON (yes b), [.int (p : Nat), TN b, .hole]) := fun b hm => by
    have hb := B2_mem.mp hm
    have : (List.range p).filterMap (fun i => if (b[i]?).getD 0 = 1 then some (D.int (i : Nat)) else none) = (yes b).map fun x : Nat => D.int (x : Nat) := by
      rw [filterMap_if, yes_eq, hb.1]
      congr 1
    simp only [ON]
    rw [← this]
    refine (comp_filt (env1 := [.int (p : Nat), TN b, .hole]) (r := none) (xs := List.range p) (fun i : Nat => D.int (i : Nat)) (fun i => if (b[i]?).getD 0 = 1 then some (.int (i : Nat)) else none) ?_ fun i hi => ?_).trans ?_
    · simp [ev, evs, evA, evAnd, evOr, evI, ex, exs, runF, shP, getV, getP, place, isTys, isTy, outsOf, List.range_succ, fillA, backA, hasBw, cmpD, binD, bltD, bLen, ixv, subD, wipeD, bindT, bindMany, seqD, putD, putI, backD, isLstAt, setP, cStep, fStep, Function.comp_def, rngs_zero p (by omega)]
    · rw [List.mem_range] at hi
      have hi2 : i < b.length := by rw [hb.1]; exact hi
      have g1 : b[i]? = some b[i] := List.getElem?_eq_getElem hi2
      by_cases h : b[i] = 1
      · simp [ev, evs, evA, evAnd, evOr, evI, ex, exs, runF, shP, getV, getP, place, isTys, isTy, outsOf, List.range_succ, fillA, backA, hasBw, cmpD, binD, bltD, bLen, ixv, subD, wipeD, bindT, bindMany, seqD, putD, putI, backD, isLstAt, setP, cStep, fStep, Function.comp_def, g1, h]
      · have : ((b[i] : Int) == 1) = false := by rw [beq_eq_false_iff_ne]; omega
        simp [ev, evs, evA, evAnd, evOr, evI, ex, exs, runF, shP, getV, getP, place, isTys, isTy, outsOf, List.range_succ, fillA, backA, hasBw, cmpD, binD, bltD, bLen, ixv, subD, wipeD, bindT, bindMany, seqD, putD, putI, backD, isLstAt, setP, cStep, fStep, Function.comp_def, g1, h, this]
    · simp [ev, evs, evA, evAnd, evOr, evI, ex, exs, runF, shP, getV, getP, place, isTys, isTy, outsOf, List.range_succ, fillA, backA, hasBw, cmpD, binD, bltD, bLen, ixv, subD, wipeD, bindT, bindMany, seqD, putD, putI, backD, isLstAt, setP, cStep, fStep, Function.comp_def]
  have c2 : ev (evF prog (n + 1)) [] F._law_all_lots.c2 [.int (p : Nat), .hole, .hole] = some (.lst true ((B2 p).map fun b => ON (yes b)), [.int (p : Nat), .hole, .hole]) := by
    refine (comp_map (env1 := [.int (p : Nat), .hole, .hole]) (r := none) (xs := B2 p) TN (fun b => ON (yes b)) ?_ fun b hb => ?_).trans ?_
    · simp [ev, evs, evA, evAnd, evOr, evI, ex, exs, runF, shP, getV, getP, place, isTys, isTy, outsOf, List.range_succ, fillA, backA, hasBw, cmpD, binD, bltD, bLen, ixv, subD, wipeD, bindT, bindMany, seqD, putD, putI, backD, isLstAt, setP, cStep, fStep, Function.comp_def, le_lim, hr, flat_rep, hlb]
    · have := c1 b hb
      simp only [ON] at this
      simp [ev, evs, evA, evAnd, evOr, evI, ex, exs, runF, shP, getV, getP, place, isTys, isTy, outsOf, List.range_succ, fillA, backA, hasBw, cmpD, binD, bltD, bLen, ixv, subD, wipeD, bindT, bindMany, seqD, putD, putI, backD, isLstAt, setP, cStep, fStep, Function.comp_def, this]
    · simp [ev, evs, evA, evAnd, evOr, evI, ex, exs, runF, shP, getV, getP, place, isTys, isTy, outsOf, List.range_succ, fillA, backA, hasBw, cmpD, binD, bltD, bLen, ixv, subD, wipeD, bindT, bindMany, seqD, putD, putI, backD, isLstAt, setP, cStep, fStep, Function.comp_def]
  show runF (evF prog (n + 1)) F._law_all_lots [_] = _
  simp [ev, evs, evA, evAnd, evOr, evI, ex, exs, runF, shP, getV, getP, place, isTys, isTy, outsOf, List.range_succ, fillA, backA, hasBw, cmpD, binD, bltD, bLen, ixv, subD, wipeD, bindT, bindMany, seqD, putD, putI, backD, isLstAt, setP, cStep, fStep, Function.comp_def, F._law_all_lots, c2]
theorem outcomes_ok (n : Nat) {u v : D} {p : Nat} {cs : List (List Nat × List Nat)} {cr : List Nat} (hu : share u = cH p cs) (hv : share v = LN cr) (ok : okH p cs) : evF prog (n + 3) 39 [u, v] = some (.lst true ((stays cs.length (fH p cs cr)).map LN), [.hole, .hole]) := by
  have c8 := ok.c8
  obtain ⟨o, hlb⟩ := lawb2 (n + 1) (c := .lst true (List.replicate cs.length (.int 2))) (k := cs.length) (share_T2 _ _) (by omega)
  have hr := repOk_one (x := .int 2) rfl cs.length (by omega)
  have c1 : ev (evF prog (n + 2)) [] F._law_outcomes.c1 [cH p cs, LN cr, .hole, .hole] = some (.lst true ((B2 cs.length).map ON), [cH p cs, LN cr, .hole, .hole]) := by
    refine (comp_map (env1 := [cH p cs, LN cr, .hole, .hole]) (r := none) (xs := B2 cs.length) TN ON ?_ fun b hb => ?_).trans ?_
    · simp [ev, evs, evA, evAnd, evOr, evI, ex, exs, runF, shP, getV, getP, place, isTys, isTy, outsOf, List.range_succ, fillA, backA, hasBw, cmpD, binD, bltD, bLen, ixv, subD, wipeD, bindT, bindMany, seqD, putD, putI, backD, isLstAt, setP, cStep, fStep, Function.comp_def, le_lim, hr, flat_rep, hlb]
    · simp [ev, evs, evA, evAnd, evOr, evI, ex, exs, runF, shP, getV, getP, place, isTys, isTy, outsOf, List.range_succ, fillA, backA, hasBw, cmpD, binD, bltD, bLen, ixv, subD, wipeD, bindT, bindMany, seqD, putD, putI, backD, isLstAt, setP, cStep, fStep, Function.comp_def, bList]
    · simp [ev, evs, evA, evAnd, evOr, evI, ex, exs, runF, shP, getV, getP, place, isTys, isTy, outsOf, List.range_succ, fillA, backA, hasBw, cmpD, binD, bltD, bLen, ixv, subD, wipeD, bindT, bindMany, seqD, putD, putI, backD, isLstAt, setP, cStep, fStep, Function.comp_def]
  have hsh : share (.lst true ((B2 cs.length).map ON)) = .lst false ((B2 cs.length).map LN) := by
    show D.lst false (share.shareL _) = _
    rw [shareL_map, List.map_map]
    exact congrArg _ (List.map_congr_left fun b _ => share_LN true b)
  have c2 : ev (evF prog (n + 2)) [] F._law_outcomes.c2 [cH p cs, LN cr, .lst true ((B2 cs.length).map ON), .hole] = some (.lst true ((stays cs.length (fH p cs cr)).map LN), [cH p cs, LN cr, .lst false ((B2 cs.length).map LN), .hole]) := by
    have hfl : stays cs.length (fH p cs cr) = (B2 cs.length).filter fun b => decide ((fH p cs cr b == b) = true) := by rw [stays]; exact List.filter_congr fun b _ => by rw [Bool.eq_iff_iff]; simp [ev, evs, evA, evAnd, evOr, evI, ex, exs, runF, shP, getV, getP, place, isTys, isTy, outsOf, List.range_succ, fillA, backA, hasBw, cmpD, binD, bltD, bLen, ixv, subD, wipeD, bindT, bindMany, seqD, putD, putI, backD, isLstAt, setP, cStep, fStep, Function.comp_def]
    rw [hfl, ← filterMap_if]
    refine (comp_filt (env1 := [cH p cs, LN cr, .lst false ((B2 cs.length).map LN), .hole]) (r := none) (xs := B2 cs.length) LN (fun b => if (fH p cs cr b == b) = true then some (LN b) else none) ?_ fun b hb => ?_).trans ?_
    · simp [ev, evs, evA, evAnd, evOr, evI, ex, exs, runF, shP, getV, getP, place, isTys, isTy, outsOf, List.range_succ, fillA, backA, hasBw, cmpD, binD, bltD, bLen, ixv, subD, wipeD, bindT, bindMany, seqD, putD, putI, backD, isLstAt, setP, cStep, fStep, Function.comp_def, hsh]
    · have ha := lawans_ok n (u := cH p cs) (v := LN cr) (w := LN b) (cr := cr) (share_cH p cs) (share_LN _ _) (share_LN _ _) ok (B2_mem.mp hb)
      simp only [ON] at ha
      by_cases h : (fH p cs cr b == b) = true
      · simp [ev, evs, evA, evAnd, evOr, evI, ex, exs, runF, shP, getV, getP, place, isTys, isTy, outsOf, List.range_succ, fillA, backA, hasBw, cmpD, binD, bltD, bLen, ixv, subD, wipeD, bindT, bindMany, seqD, putD, putI, backD, isLstAt, setP, cStep, fStep, Function.comp_def, ha, h]
      · have h' : (fH p cs cr b == b) = false := by simpa [ev, evs, evA, evAnd, evOr, evI, ex, exs, runF, shP, getV, getP, place, isTys, isTy, outsOf, List.range_succ, fillA, backA, hasBw, cmpD, binD, bltD, bLen, ixv, subD, wipeD, bindT, bindMany, seqD, putD, putI, backD, isLstAt, setP, cStep, fStep, Function.comp_def] using h
        simp [ev, evs, evA, evAnd, evOr, evI, ex, exs, runF, shP, getV, getP, place, isTys, isTy, outsOf, List.range_succ, fillA, backA, hasBw, cmpD, binD, bltD, bLen, ixv, subD, wipeD, bindT, bindMany, seqD, putD, putI, backD, isLstAt, setP, cStep, fStep, Function.comp_def, ha, h']
    · simp [ev, evs, evA, evAnd, evOr, evI, ex, exs, runF, shP, getV, getP, place, isTys, isTy, outsOf, List.range_succ, fillA, backA, hasBw, cmpD, binD, bltD, bLen, ixv, subD, wipeD, bindT, bindMany, seqD, putD, putI, backD, isLstAt, setP, cStep, fStep, Function.comp_def]
  show runF (evF prog (n + 2)) F._law_outcomes [_, _] = _
  simp [ev, evs, evA, evAnd, evOr, evI, ex, exs, runF, shP, getV, getP, place, isTys, isTy, outsOf, List.range_succ, fillA, backA, hasBw, cmpD, binD, bltD, bLen, ixv, subD, wipeD, bindT, bindMany, seqD, putD, putI, backD, isLstAt, setP, cStep, fStep, Function.comp_def, F._law_outcomes, hu, hv, c1, c2]
end K81

namespace K81
open OE PySem PySem.Spec PyProof.Rows L2

mutual
theorem simp_share : ∀ d : D, simpD (share d) = simpD d
  | .tup xs => by simp only [share, simpD]; exact simpL_share xs
  | .lst _ xs => by simp only [share, simpD]; exact simpL_share xs
  | .hole => rfl | .non => rfl | .bl _ => rfl | .int _ => rfl | .str _ => rfl | .scr _ => rfl
theorem simpL_share : ∀ ds : List D, simpL (share.shareL ds) = simpL ds
  | [] => rfl
  | d :: ds => by simp only [share.shareL, simpL]; rw [simp_share d, simpL_share ds]
end
theorem same_c1 {Γ : Fns} {q : D} {ds : List D} (hq : q = .tup ds ∨ q = .lst false ds) (hs : share q = q) (hl : ds.length ≤ 1000000) (h : ∀ x ∈ ds, share x = x ∧ x ≠ .hole ∧ Γ 32 [x, x] = some (.bl true, [.hole, .hole])) : ev Γ [] F._law_same.c1 [q, q, .hole] = some (.lst true [], [q, q, .hole]) := by
  have key : ∀ i ∈ List.range ds.length, cStep Γ [] [2] (.sh 2) (.nm 2) (some ()) (.not (.call 32 (.ex (.pk 0 [.v 2]) (.ex (.pk 1 [.v 2]) .nil)))) [q, q, .hole] (D.int (i : Nat)) = some (none, [q, q, .hole]) := fun i hi => by
    rw [List.mem_range] at hi
    obtain ⟨hsd, hne, e⟩ := h ds[i] (List.getElem_mem hi)
    have g1 : ds[i]? = some ds[i] := List.getElem?_eq_getElem hi
    rcases hq with rfl | rfl <;> simp [ev, evs, evA, evAnd, evOr, evI, ex, exs, runF, shP, getV, getP, place, isTys, isTy, outsOf, List.range_succ, fillA, backA, hasBw, cmpD, binD, bltD, bLen, ixv, subD, wipeD, bindT, bindMany, seqD, putD, putI, backD, isLstAt, setP, cStep, fStep, Function.comp_def, g1, noOwn_of_share hsd, hsd, e]
  refine (comp_filt (env1 := [q, q, .hole]) (r := none) (xs := List.range ds.length) (fun i : Nat => D.int (i : Nat)) (fun _ => none) ?_ key).trans ?_
  · rcases hq with rfl | rfl <;> simp [ev, evs, evA, evAnd, evOr, evI, ex, exs, runF, shP, getV, getP, place, isTys, isTy, outsOf, List.range_succ, fillA, backA, hasBw, cmpD, binD, bltD, bLen, ixv, subD, wipeD, bindT, bindMany, seqD, putD, putI, backD, isLstAt, setP, cStep, fStep, Function.comp_def, hs, rngs_zero _ hl]
  · simp [ev, evs, evA, evAnd, evOr, evI, ex, exs, runF, shP, getV, getP, place, isTys, isTy, outsOf, List.range_succ, fillA, backA, hasBw, cmpD, binD, bltD, bLen, ixv, subD, wipeD, bindT, bindMany, seqD, putD, putI, backD, isLstAt, setP, cStep, fStep, Function.comp_def]
theorem simp_ne {d : D} (h : simpD d = true) : d ≠ .hole := by rintro rfl; simp [ev, evs, evA, evAnd, evOr, evI, ex, exs, runF, shP, getV, getP, place, isTys, isTy, outsOf, List.range_succ, fillA, backA, hasBw, cmpD, binD, bltD, bLen, ixv, subD, wipeD, bindT, bindMany, seqD, putD, putI, backD, isLstAt, setP, cStep, fStep, Function.comp_def, simpD] at h
/-- lists of at most a million within -/
def lensD : Nat → D → Bool
  | k + 1, .tup xs => decide (xs.length ≤ 1000000) && xs.all (lensD k)
  | k + 1, .lst _ xs => decide (xs.length ≤ 1000000) && xs.all (lensD k)
  | 0, .tup _ => false
  | 0, .lst _ _ => false
  | _, _ => true
theorem lens_share : ∀ (k : Nat) (d : D), lensD k (share d) = lensD k d
  | 0, .tup xs => by simp only [share, lensD]
  | 0, .lst _ xs => by simp only [share, lensD]
  | k + 1, .tup xs => by
    simp only [share, lensD, shareL_map, List.all_map, List.length_map]
    congr 2; funext d; exact lens_share k d
  | k + 1, .lst _ xs => by
    simp only [share, lensD, shareL_map, List.all_map, List.length_map]
    congr 2; funext d; exact lens_share k d
  | 0, .hole => rfl | 0, .non => rfl | 0, .bl _ => rfl | 0, .int _ => rfl | 0, .str _ => rfl | 0, .scr _ => rfl
  | _ + 1, .hole => rfl | _ + 1, .non => rfl | _ + 1, .bl _ => rfl | _ + 1, .int _ => rfl | _ + 1, .str _ => rfl | _ + 1, .scr _ => rfl
theorem same_atom (k n : Nat) (d : D) (hp : simpD d = true) (hw : lensD 0 d = true) : runF (evF prog (n + k)) F._law_same [d, d] = some (.bl true, [.hole, .hole]) := by
  cases d with
  | hole => simp [ev, evs, evA, evAnd, evOr, evI, ex, exs, runF, shP, getV, getP, place, isTys, isTy, outsOf, List.range_succ, fillA, backA, hasBw, cmpD, binD, bltD, bLen, ixv, subD, wipeD, bindT, bindMany, seqD, putD, putI, backD, isLstAt, setP, cStep, fStep, Function.comp_def, simpD] at hp
  | scr ns => simp [ev, evs, evA, evAnd, evOr, evI, ex, exs, runF, shP, getV, getP, place, isTys, isTy, outsOf, List.range_succ, fillA, backA, hasBw, cmpD, binD, bltD, bLen, ixv, subD, wipeD, bindT, bindMany, seqD, putD, putI, backD, isLstAt, setP, cStep, fStep, Function.comp_def, simpD] at hp
  | str b => simp [ev, evs, evA, evAnd, evOr, evI, ex, exs, runF, shP, getV, getP, place, isTys, isTy, outsOf, List.range_succ, fillA, backA, hasBw, cmpD, binD, bltD, bLen, ixv, subD, wipeD, bindT, bindMany, seqD, putD, putI, backD, isLstAt, setP, cStep, fStep, Function.comp_def, simpD] at hp
  | non => simp [ev, evs, evA, evAnd, evOr, evI, ex, exs, runF, shP, getV, getP, place, isTys, isTy, outsOf, List.range_succ, fillA, backA, hasBw, cmpD, binD, bltD, bLen, ixv, subD, wipeD, bindT, bindMany, seqD, putD, putI, backD, isLstAt, setP, cStep, fStep, Function.comp_def, F._law_same]
  | bl b => cases b <;> simp [ev, evs, evA, evAnd, evOr, evI, ex, exs, runF, shP, getV, getP, place, isTys, isTy, outsOf, List.range_succ, fillA, backA, hasBw, cmpD, binD, bltD, bLen, ixv, subD, wipeD, bindT, bindMany, seqD, putD, putI, backD, isLstAt, setP, cStep, fStep, Function.comp_def, F._law_same]
  | int b => simp [ev, evs, evA, evAnd, evOr, evI, ex, exs, runF, shP, getV, getP, place, isTys, isTy, outsOf, List.range_succ, fillA, backA, hasBw, cmpD, binD, bltD, bLen, ixv, subD, wipeD, bindT, bindMany, seqD, putD, putI, backD, isLstAt, setP, cStep, fStep, Function.comp_def, F._law_same]
  | tup ds => simp [ev, evs, evA, evAnd, evOr, evI, ex, exs, runF, shP, getV, getP, place, isTys, isTy, outsOf, List.range_succ, fillA, backA, hasBw, cmpD, binD, bltD, bLen, ixv, subD, wipeD, bindT, bindMany, seqD, putD, putI, backD, isLstAt, setP, cStep, fStep, Function.comp_def, lensD] at hw
  | lst o ds => simp [ev, evs, evA, evAnd, evOr, evI, ex, exs, runF, shP, getV, getP, place, isTys, isTy, outsOf, List.range_succ, fillA, backA, hasBw, cmpD, binD, bltD, bLen, ixv, subD, wipeD, bindT, bindMany, seqD, putD, putI, backD, isLstAt, setP, cStep, fStep, Function.comp_def, lensD] at hw
theorem same_self : ∀ (k n : Nat) (d : D), share d = d → simpD d = true → lensD k d = true → runF (evF prog (n + k)) F._law_same [d, d] = some (.bl true, [.hole, .hole]) := by
  intro k
  induction k with
  | zero => intro n d hs hp hw; exact same_atom 0 n d hp hw
  | succ k ihk =>
    intro n d hs hp hw
    by_cases h0 : lensD 0 d = true
    · exact same_atom (k + 1) n d hp h0
    have key : ∀ ds, share.shareL ds = ds → ds.all simpD = true → ds.all (lensD k) = true → ∀ x ∈ ds, share x = x ∧ x ≠ .hole ∧ evF prog (n + k + 1) 32 [x, x] = some (.bl true, [.hole, .hole]) := fun ds hs' hp hw x hx => by
      simp only [List.all_eq_true] at hp hw
      exact ⟨share_elem hs' hx, simp_ne (hp x hx), ihk n x (share_elem hs' hx) (hp x hx) (hw x hx)⟩
    cases d with
    | tup ds =>
      simp only [lensD, Bool.and_eq_true, decide_eq_true_eq] at hw
      have hs' : share.shareL ds = ds := by simpa [ev, evs, evA, evAnd, evOr, evI, ex, exs, runF, shP, getV, getP, place, isTys, isTy, outsOf, List.range_succ, fillA, backA, hasBw, cmpD, binD, bltD, bLen, ixv, subD, wipeD, bindT, bindMany, seqD, putD, putI, backD, isLstAt, setP, cStep, fStep, Function.comp_def, share] using hs
      have c1 := same_c1 (.inl rfl) hs hw.1 (key ds hs' (by simpa only [simpD, simpL_all] using hp) hw.2)
      simp [ev, evs, evA, evAnd, evOr, evI, ex, exs, runF, shP, getV, getP, place, isTys, isTy, outsOf, List.range_succ, fillA, backA, hasBw, cmpD, binD, bltD, bLen, ixv, subD, wipeD, bindT, bindMany, seqD, putD, putI, backD, isLstAt, setP, cStep, fStep, Function.comp_def, F._law_same, hs, c1, show n + (k + 1) = n + k + 1 from rfl]
    | lst o ds =>
      simp only [lensD, Bool.and_eq_true, decide_eq_true_eq] at hw
      have ho : o = false := by simp [ev, evs, evA, evAnd, evOr, evI, ex, exs, runF, shP, getV, getP, place, isTys, isTy, outsOf, List.range_succ, fillA, backA, hasBw, cmpD, binD, bltD, bLen, ixv, subD, wipeD, bindT, bindMany, seqD, putD, putI, backD, isLstAt, setP, cStep, fStep, Function.comp_def, share] at hs; exact hs.1
      subst ho
      have hs' : share.shareL ds = ds := by simpa [ev, evs, evA, evAnd, evOr, evI, ex, exs, runF, shP, getV, getP, place, isTys, isTy, outsOf, List.range_succ, fillA, backA, hasBw, cmpD, binD, bltD, bLen, ixv, subD, wipeD, bindT, bindMany, seqD, putD, putI, backD, isLstAt, setP, cStep, fStep, Function.comp_def, share] using hs
      have c1 := same_c1 (.inr rfl) hs hw.1 (key ds hs' (by simpa only [simpD, simpL_all] using hp) hw.2)
      simp [ev, evs, evA, evAnd, evOr, evI, ex, exs, runF, shP, getV, getP, place, isTys, isTy, outsOf, List.range_succ, fillA, backA, hasBw, cmpD, binD, bltD, bLen, ixv, subD, wipeD, bindT, bindMany, seqD, putD, putI, backD, isLstAt, setP, cStep, fStep, Function.comp_def, F._law_same, hs, c1, show n + (k + 1) = n + k + 1 from rfl]
    | _ => exact absurd rfl h0
/-- fit for the law's own test -/
def fit (k : Nat) (d : D) : Prop := simpD d = true ∧ lensD k d = true
theorem same_ok (n k : Nat) {a b : D} (h : share a = share b) (hf : fit k b) : evF prog (n + k + 1) 32 [a, b] = some (.bl true, [.hole, .hole]) := by
  have := same_self k n (share b) (share_share b) (by rw [simp_share]; exact hf.1) (by rw [lens_share]; exact hf.2)
  show runF (evF prog (n + k)) F._law_same [a, b] = _
  rw [← this]
  simp only [runF, shP, F._law_same, h, share_share]
  rfl
theorem fit.of {k : Nat} {a b : D} (h : fit k b) (e : share a = share b) : fit k a := by
  refine ⟨?_, ?_⟩
  · rw [← simp_share, e, simp_share]; exact h.1
  · rw [← lens_share, e, lens_share]; exact h.2
theorem fit.lst {k : Nat} {o : Bool} {xs : List D} (hl : xs.length ≤ 1000000) (h : ∀ x ∈ xs, fit k x) : fit (k + 1) (.lst o xs) := by
  refine ⟨?_, ?_⟩
  · simp only [simpD, simpL_all, List.all_eq_true]; exact fun x hx => (h x hx).1
  · simp only [lensD, Bool.and_eq_true, decide_eq_true_eq, List.all_eq_true]; exact ⟨hl, fun x hx => (h x hx).2⟩
theorem fit.tup {k : Nat} {xs : List D} (hl : xs.length ≤ 1000000) (h : ∀ x ∈ xs, fit k x) : fit (k + 1) (.tup xs) := by
  refine ⟨?_, ?_⟩
  · simp only [simpD, simpL_all, List.all_eq_true]; exact fun x hx => (h x hx).1
  · simp only [lensD, Bool.and_eq_true, decide_eq_true_eq, List.all_eq_true]; exact ⟨hl, fun x hx => (h x hx).2⟩
theorem fit.int {k i : Nat} (h : i < 1000) : fit k (.int (i : Nat)) := ⟨by simp [ev, evs, evA, evAnd, evOr, evI, ex, exs, runF, shP, getV, getP, place, isTys, isTy, outsOf, List.range_succ, fillA, backA, hasBw, cmpD, binD, bltD, bLen, ixv, subD, wipeD, bindT, bindMany, seqD, putD, putI, backD, isLstAt, setP, cStep, fStep, Function.comp_def, simpD]; omega, by cases k <;> rfl⟩
theorem fit.bl (k : Nat) (b : Bool) : fit k (.bl b) := ⟨rfl, by cases k <;> rfl⟩
theorem fit.non (k : Nat) : fit k .non := ⟨rfl, by cases k <;> rfl⟩
theorem fit.nats {k : Nat} {o : Bool} {l : List Nat} (hl : l.length ≤ 1000000) (h : ∀ x ∈ l, x < 1000) : fit (k + 1) (.lst o (l.map fun x : Nat => .int (x : Nat))) := .lst (by simpa [ev, evs, evA, evAnd, evOr, evI, ex, exs, runF, shP, getV, getP, place, isTys, isTy, outsOf, List.range_succ, fillA, backA, hasBw, cmpD, binD, bltD, bLen, ixv, subD, wipeD, bindT, bindMany, seqD, putD, putI, backD, isLstAt, setP, cStep, fStep, Function.comp_def] using hl) fun x hx => by
  obtain ⟨i, hi, rfl⟩ := List.mem_map.mp hx
  exact .int (h i hi)
theorem fit.a1 {k : Nat} {a : D} {l : List D} (h : fit k a) (h2 : ∀ x ∈ l, fit k x) : ∀ x ∈ a :: l, fit k x := by
  intro x hx
  rcases List.mem_cons.mp hx with rfl | hx
  · exact h
  · exact h2 x hx
theorem fit.a0 {k : Nat} : ∀ x ∈ ([] : List D), fit k x := by simp [ev, evs, evA, evAnd, evOr, evI, ex, exs, runF, shP, getV, getP, place, isTys, isTy, outsOf, List.range_succ, fillA, backA, hasBw, cmpD, binD, bltD, bLen, ixv, subD, wipeD, bindT, bindMany, seqD, putD, putI, backD, isLstAt, setP, cStep, fStep, Function.comp_def]
/-! the first crowd with two outcomes -/
def told2S (p : Nat) (cs : List (List Nat × List Nat)) : D := match (B2 p).find? (parts p cs) with
  | some b => .tup [LN (yes b), LN (low p cs (yes b)), LN (hig p cs (yes b))]
  | none => .non
theorem share_told (p : Nat) (cs : List (List Nat × List Nat)) : share (told2 p cs) = told2S p cs := by
  unfold told2 told2S
  cases (B2 p).find? (parts p cs) with
  | none => rfl
  | some b =>
    show D.tup [share _, share _, share _] = _
    simp [ev, evs, evA, evAnd, evOr, evI, ex, exs, runF, shP, getV, getP, place, isTys, isTy, outsOf, List.range_succ, fillA, backA, hasBw, cmpD, binD, bltD, bLen, ixv, subD, wipeD, bindT, bindMany, seqD, putD, putI, backD, isLstAt, setP, cStep, fStep, Function.comp_def]
theorem bits_fit {c k : Nat} {o : Bool} {l : List Nat} (h : bitl c l) (hc : c ≤ 100) : fit (k + 1) (.lst o (l.map fun x : Nat => .int (x : Nat))) := .nats (by rw [h.1]; omega) fun x hx => by have := h.2 x hx; omega
theorem yes_fit {p k : Nat} {o : Bool} {b : List Nat} (hb : bitl p b) (hp : p ≤ 100) : fit (k + 1) (.lst o ((yes b).map fun x : Nat => .int (x : Nat))) := by
  have h := yes_cr hb
  exact .nats (by have := h.len; omega) fun x hx => by have := h.bd x hx; omega
theorem told_fit {p : Nat} {cs : List (List Nat × List Nat)} (ok : okH p cs) : fit 2 (told2S p cs) := by
  have p6 := ok.p6
  have c8 := ok.c8
  unfold told2S
  cases hf : (B2 p).find? (parts p cs) with
  | none => exact .non 2
  | some b =>
    have hb := B2_mem.mp (List.mem_of_find?_eq_some hf)
    exact .tup (by simp [ev, evs, evA, evAnd, evOr, evI, ex, exs, runF, shP, getV, getP, place, isTys, isTy, outsOf, List.range_succ, fillA, backA, hasBw, cmpD, binD, bltD, bLen, ixv, subD, wipeD, bindT, bindMany, seqD, putD, putI, backD, isLstAt, setP, cStep, fStep, Function.comp_def]) (.a1 (yes_fit hb (by omega)) (.a1 (bits_fit (low_len ok _) (by omega)) (.a1 (bits_fit (hig_len ok _) (by omega)) .a0)))
theorem atI_last {α : Type} (xs : List α) : L2.atI xs (-1) = xs.getLast? := by
  unfold L2.atI L2.ixN
  rw [if_neg (by omega)]
  cases xs with
  | nil => simp [ev, evs, evA, evAnd, evOr, evI, ex, exs, runF, shP, getV, getP, place, isTys, isTy, outsOf, List.range_succ, fillA, backA, hasBw, cmpD, binD, bltD, bLen, ixv, subD, wipeD, bindT, bindMany, seqD, putD, putI, backD, isLstAt, setP, cStep, fStep, Function.comp_def]
  | cons a l =>
    rw [if_pos (by simp [ev, evs, evA, evAnd, evOr, evI, ex, exs, runF, shP, getV, getP, place, isTys, isTy, outsOf, List.range_succ, fillA, backA, hasBw, cmpD, binD, bltD, bLen, ixv, subD, wipeD, bindT, bindMany, seqD, putD, putI, backD, isLstAt, setP, cStep, fStep, Function.comp_def]; omega)]
    simp [ev, evs, evA, evAnd, evOr, evI, ex, exs, runF, shP, getV, getP, place, isTys, isTy, outsOf, List.range_succ, fillA, backA, hasBw, cmpD, binD, bltD, bLen, ixv, subD, wipeD, bindT, bindMany, seqD, putD, putI, backD, isLstAt, setP, cStep, fStep, Function.comp_def, List.getLast?_eq_getElem?]
    have e : (-1 + ((l.length : Int) + 1)).toNat = l.length := by omega
    rw [e]
    exact List.getElem?_eq_getElem _

end K81

namespace K81
open OE PySem PySem.Spec PyProof.Rows L2
/-! chains, plainly -/
theorem yes_mem {b : List Nat} {k : Nat} : k ∈ yes b ↔ k < b.length ∧ (b[k]?).getD 0 = 1 := by
  have key : ∀ (b : List Nat) (n : Nat), k ∈ ((b.zipIdx n).filter fun q => q.1 == 1).map (·.2) ↔ n ≤ k ∧ k < n + b.length ∧ (b[k - n]?).getD 0 = 1 := by
    intro b
    induction b with
    | nil => intro n; simp
    | cons x b ih =>
      intro n
      rw [List.zipIdx_cons, List.filter_cons]
      have e : ∀ h : n < k, ((x :: b)[k - n]?) = b[k - (n + 1)]? := fun h => by
        rw [show k - n = (k - (n + 1)) + 1 by omega]; rfl
      by_cases hx : x = 1
      · subst hx
        simp only [beq_self_eq_true, if_true, List.map_cons, List.mem_cons, ih (n + 1), List.length_cons]
        constructor
        · rintro (rfl | ⟨h1, h2, h3⟩)
          · simp
          · exact ⟨by omega, by omega, by rw [e (by omega)]; exact h3⟩
        · rintro ⟨h1, h2, h3⟩
          by_cases hk : k = n
          · exact .inl hk
          · exact .inr ⟨by omega, by omega, by rw [← e (by omega)]; exact h3⟩
      · have hx' : (x == 1) = false := by simpa using hx
        simp only [hx', Bool.false_eq_true, if_false, ih (n + 1), List.length_cons]
        constructor
        · rintro ⟨h1, h2, h3⟩
          exact ⟨by omega, by omega, by rw [e (by omega)]; exact h3⟩
        · rintro ⟨h1, h2, h3⟩
          by_cases hk : k = n
          · subst hk; simp at h3; exact absurd h3 hx
          · exact ⟨by omega, by omega, by rw [← e (by omega)]; exact h3⟩
  have := key b 0
  simpa [yes] using this
theorem bits_at {c k : Nat} {S : List Nat} (hk : k < c) : ((bits c S)[k]?).getD 0 = if k ∈ S then 1 else 0 := by
  rw [bits, List.getElem?_map, List.getElem?_range hk]; rfl
/-- the companies that carry if these ones say yes -/
def carry (p : Nat) (cs : List (List Nat × List Nat)) (cr S : List Nat) : List Nat := yes (fH p cs cr (bits cs.length S))
structure okPre (p : Nat) (cs : List (List Nat × List Nat)) (cr S : List Nat) : Prop where
  nd : ∀ (i : Nat) (h : i < S.length), S[i] ∉ S.take i
  cy : ∀ (i : Nat) (h : i < S.length), S[i] ∈ carry p cs cr (S.take i)
section
variable {p : Nat} {cs : List (List Nat × List Nat)} {cr S T : List Nat}
theorem carry_mem (ok : okH p cs) {k : Nat} : k ∈ carry p cs cr S ↔ k < cs.length ∧ ((fH p cs cr (bits cs.length S))[k]?).getD 0 = 1 := by
  rw [carry, yes_mem, ((fH_ris ok cr).bits _ (bits_ok _ _)).1]
theorem okPre.nil : okPre p cs cr [] := ⟨fun i h => by simp at h, fun i h => by simp at h⟩
theorem okPre.snoc (h : okPre p cs cr S) {x : Nat} (h1 : x ∉ S) (h2 : x ∈ carry p cs cr S) : okPre p cs cr (S ++ [x]) := by
  have key : ∀ (i : Nat) (hi : i < (S ++ [x]).length), (S ++ [x])[i] ∉ (S ++ [x]).take i ∧ (S ++ [x])[i] ∈ carry p cs cr ((S ++ [x]).take i) := fun i hi => by
    rw [List.length_append, List.length_singleton] at hi
    rw [List.take_append_of_le_length (by omega)]
    by_cases hl : i < S.length
    · rw [List.getElem_append_left hl]; exact ⟨h.nd i hl, h.cy i hl⟩
    · have : i = S.length := by omega
      subst this
      simp only [List.getElem_concat_length, List.take_length]
      exact ⟨h1, h2⟩
  exact ⟨fun i hi => (key i hi).1, fun i hi => (key i hi).2⟩
theorem okPre.nodup (h : okPre p cs cr S) : S.Nodup := by
  rw [List.Nodup, List.pairwise_iff_getElem]
  intro i j hi hj hij e
  exact h.nd j hj (List.mem_take_iff_getElem.mpr ⟨i, by omega, e⟩)
theorem pre_low (ok : okH p cs) (h : okPre p cs cr S) : ∀ (i : Nat) (hi : i < S.length), S[i] < cs.length ∧ ((low p cs cr)[S[i]]?).getD 0 = 1 := by
  intro i
  induction i using Nat.strongRecOn with
  | ind i ih =>
    intro hi
    have r := fH_ris ok cr
    have h1 := (carry_mem ok).mp (h.cy i hi)
    have hb : leL (bits cs.length (S.take i)) (low p cs cr) := fun k => by
      by_cases hk : k < cs.length
      · rw [bits_at hk]
        split
        · rename_i hm
          obtain ⟨j, hj, e⟩ := List.mem_take_iff_getElem.mp hm
          have := (ih j (by omega) (by omega)).2
          rw [e] at this; omega
        · omega
      · rw [List.getElem?_eq_none (by rw [(bits_ok _ _).1]; omega)]; simp
    have h2 := r.up _ _ (bits_ok _ _) (low_len ok cr) hb S[i]
    rw [show fH p cs cr (low p cs cr) = low p cs cr from lst_fix r] at h2
    have h3 := getD_le (low_len ok cr).2 S[i]
    exact ⟨h1.1, by omega⟩
theorem pre_mem (ok : okH p cs) (h : okPre p cs cr S) {x : Nat} (hx : x ∈ S) : x < cs.length ∧ ((low p cs cr)[x]?).getD 0 = 1 := by
  obtain ⟨i, hi, rfl⟩ := List.getElem_of_mem hx
  exact pre_low ok h i hi
theorem closed_low (ok : okH p cs) (h : ∀ k ∈ carry p cs cr S, k ∈ S) {k : Nat} (hk : k < cs.length) (h1 : ((low p cs cr)[k]?).getD 0 = 1) : k ∈ S := by
  have r := fH_ris ok cr
  have hf : leL (fH p cs cr (bits cs.length S)) (bits cs.length S) := fun k => by
    by_cases hk : k < cs.length
    · have h2 := getD_le (r.bits _ (bits_ok cs.length S)).2 k
      rw [bits_at hk]
      split
      · omega
      · rename_i hn
        have : ¬ ((fH p cs cr (bits cs.length S))[k]?).getD 0 = 1 := fun z => hn (h k ((carry_mem ok).mpr ⟨hk, z⟩))
        omega
    · rw [List.getElem?_eq_none (by rw [(r.bits _ (bits_ok _ _)).1]; omega)]; simp
  have hle : ∀ n, leL (iter (fH p cs cr) (zeros cs.length) n) (bits cs.length S) := by
    intro n
    induction n with
    | zero => exact zeros_le _ _
    | succ n ih => exact (r.up _ _ (iter_bits r (zeros_bits _) n) (bits_ok _ _) ih).trans hf
  have := hle cs.length k
  rw [bits_at hk] at this
  change ((low p cs cr)[k]?).getD 0 ≤ _ at this
  split at this
  · assumption
  · omega
theorem chain_mem (ok : okH p cs) (h : okPre p cs cr S) (hc : ∀ k ∈ carry p cs cr S, k ∈ S) {x : Nat} : x ∈ S ↔ x < cs.length ∧ ((low p cs cr)[x]?).getD 0 = 1 :=
  ⟨pre_mem ok h, fun ⟨h1, h2⟩ => closed_low ok hc h1 h2⟩
theorem chain_perm (ok : okH p cs) (h : okPre p cs cr S) (hc : ∀ k ∈ carry p cs cr S, k ∈ S) (h' : okPre p cs cr T) (hc' : ∀ k ∈ carry p cs cr T, k ∈ T) : S.Perm T :=
  (List.perm_ext_iff_of_nodup h.nodup h'.nodup).mpr fun a => by rw [chain_mem ok h hc, chain_mem ok h' hc']
theorem chain_sorted (h : S.Perm T) : bSorted [.lst true (S.map fun x : Nat => D.int (x : Nat))] = bSorted [.lst false (T.map fun x : Nat => D.int (x : Nat))] := by
  have e : ∀ l : List Nat, (l.map fun x : Nat => D.int (x : Nat)) = (l.map fun x : Nat => (x : Int)).map D.int := fun l => by rw [List.map_map]; rfl
  rw [e, e]
  simp only [bSorted, allInts_map]
  have hs : ((S.map fun x : Nat => (x : Int)).mergeSort fun a b => decide (a ≤ b)).Pairwise (· ≤ ·) := by
    have := List.pairwise_mergeSort (le := fun a b : Int => decide (a ≤ b)) (fun a b c => by simp; omega) (fun a b => by simp; omega) (S.map fun x : Nat => (x : Int))
    exact this.imp fun h => by simpa using h
  simp only [Option.map_some]
  rw [sorted_one ((List.mergeSort_perm _ _).trans (h.map fun x : Nat => (x : Int))) hs]
/-- the law's own word: each one new and carried by those ahead of it, and none is left -/
def goodAt (p : Nat) (cs : List (List Nat × List Nat)) (cr S : List Nat) (i : Nat) : Bool := decide ((S[i]?).getD 0 ∉ S.take i) && decide ((S[i]?).getD 0 ∈ carry p cs cr (S.take i))
def chB (p : Nat) (cs : List (List Nat × List Nat)) (cr S : List Nat) : Bool := ((List.range S.length).all fun i => goodAt p cs cr S i) && (carry p cs cr S).all fun k => decide (k ∈ S)
theorem chB_iff : chB p cs cr S = true ↔ okPre p cs cr S ∧ ∀ k ∈ carry p cs cr S, k ∈ S := by
  simp only [chB, Bool.and_eq_true, List.all_eq_true, List.mem_range, goodAt, decide_eq_true_eq]
  constructor
  · rintro ⟨h1, h2⟩
    refine ⟨⟨fun i hi => ?_, fun i hi => ?_⟩, h2⟩
    · have := (h1 i hi).1; rwa [List.getElem?_eq_getElem hi] at this
    · have := (h1 i hi).2; rwa [List.getElem?_eq_getElem hi] at this
  · rintro ⟨h1, h2⟩
    refine ⟨fun i hi => ?_, h2⟩
    rw [List.getElem?_eq_getElem hi]
    exact ⟨h1.nd i hi, h1.cy i hi⟩
/-! the greedy chain -/
/-- the fresh ones -/
def fresh (p : Nat) (cs : List (List Nat × List Nat)) (cr S : List Nat) : List Nat := (carry p cs cr S).filter fun k => decide (k ∉ S)
theorem fresh_nil : fresh p cs cr S = [] ↔ ∀ k ∈ carry p cs cr S, k ∈ S := by
  simp [fresh, List.filter_eq_nil_iff]
def chn (p : Nat) (cs : List (List Nat × List Nat)) (cr : List Nat) : Nat → List Nat
  | 0 => []
  | k + 1 => match (fresh p cs cr (chn p cs cr k)).head? with
    | some x => chn p cs cr k ++ [x]
    | none => chn p cs cr k
theorem chn_pre : ∀ k, okPre p cs cr (chn p cs cr k)
  | 0 => okPre.nil
  | k + 1 => by
    rw [chn]
    cases hf : (fresh p cs cr (chn p cs cr k)).head? with
    | none => exact chn_pre k
    | some x =>
      have hm := List.mem_of_mem_head? hf
      rw [fresh, List.mem_filter] at hm
      exact (chn_pre k).snoc (by simpa using hm.2) hm.1
theorem pre_len (ok : okH p cs) (h : okPre p cs cr S) : S.length ≤ cs.length := by
  have := h.nodup.length_le_of_subset (l₂ := List.range cs.length) fun x hx => List.mem_range.mpr (pre_mem ok h hx).1
  simpa using this
theorem chn_end (ok : okH p cs) : ∃ N, N ≤ cs.length ∧ fresh p cs cr (chn p cs cr N) = [] ∧ (∀ k, k < N → fresh p cs cr (chn p cs cr k) ≠ []) ∧ ∀ k, k ≤ N → (chn p cs cr k).length = k := by
  have key : ∀ m, (∃ N, N < m ∧ fresh p cs cr (chn p cs cr N) = [] ∧ (∀ k, k < N → fresh p cs cr (chn p cs cr k) ≠ []) ∧ ∀ k, k ≤ N → (chn p cs cr k).length = k) ∨ ((∀ k, k < m → fresh p cs cr (chn p cs cr k) ≠ []) ∧ ∀ k, k ≤ m → (chn p cs cr k).length = k) := by
    intro m
    induction m with
    | zero => exact .inr ⟨fun k hk => by omega, fun k hk => by
        have : k = 0 := by omega
        subst this; rfl⟩
    | succ m ih =>
      rcases ih with ⟨N, h1, h2⟩ | ⟨h1, h2⟩
      · exact .inl ⟨N, by omega, h2⟩
      · by_cases e : fresh p cs cr (chn p cs cr m) = []
        · exact .inl ⟨m, by omega, e, h1, h2⟩
        · refine .inr ⟨fun k hk => ?_, fun k hk => ?_⟩
          · by_cases hkm : k = m
            · subst hkm; exact e
            · exact h1 k (by omega)
          · by_cases hkm : k = m + 1
            · subst hkm
              rw [chn]
              cases hf : fresh p cs cr (chn p cs cr m) with
              | nil => exact absurd hf e
              | cons x l => simp [h2 m (by omega)]
            · exact h2 k (by omega)
  rcases key (cs.length + 1) with ⟨N, h1, h2⟩ | ⟨h1, h2⟩
  · exact ⟨N, by omega, h2⟩
  · have := pre_len ok (chn_pre (p := p) (cs := cs) (cr := cr) (cs.length + 1))
    have := h2 (cs.length + 1) (by omega)
    omega
end
end K81

namespace K81
open OE PySem PySem.Spec PyProof.Rows L2

theorem carried_ok (n : Nat) {u v w : D} {p : Nat} {cs : List (List Nat × List Nat)} {cr S : List Nat} (hu : share u = cH p cs) (hv : share v = LN cr) (hw : share w = LN S) (ok : okH p cs) : evF prog (n + 3) 22 [u, v, w] = some (ON (carry p cs cr S), [.hole, .hole, .hole]) := by
  have p6 := ok.p6
  have c8 := ok.c8
  have c1 : ev (evF prog (n + 2)) [] F.carried_with.c1 [cH p cs, LN cr, LN S, .hole, .hole, .hole, .hole] = some (ON (bits cs.length S), [cH p cs, LN cr, LN S, .hole, .hole, .hole, .hole]) := by
    refine (comp_map (env1 := [cH p cs, LN cr, LN S, .hole, .hole, .hole, .hole]) (r := none) (xs := List.range cs.length) (fun i : Nat => D.int (i : Nat)) (fun i => .int ((if i ∈ S then 1 else 0 : Nat) : Nat)) ?_ fun i hi => ?_).trans ?_
    · simp [ev, evs, evA, evAnd, evOr, evI, ex, exs, runF, shP, getV, getP, place, isTys, isTy, outsOf, List.range_succ, fillA, backA, hasBw, cmpD, binD, bltD, bLen, ixv, subD, wipeD, bindT, bindMany, seqD, putD, putI, backD, isLstAt, setP, cStep, fStep, Function.comp_def, rngs_zero cs.length (by omega)]
    · have := any_cast i S
      by_cases h : i ∈ S
      · simp only [h, decide_true] at this
        simp [ev, evs, evA, evAnd, evOr, evI, ex, exs, runF, shP, getV, getP, place, isTys, isTy, outsOf, List.range_succ, fillA, backA, hasBw, cmpD, binD, bltD, bLen, ixv, subD, wipeD, bindT, bindMany, seqD, putD, putI, backD, isLstAt, setP, cStep, fStep, Function.comp_def, this, h]
      · simp only [h, decide_false] at this
        simp [ev, evs, evA, evAnd, evOr, evI, ex, exs, runF, shP, getV, getP, place, isTys, isTy, outsOf, List.range_succ, fillA, backA, hasBw, cmpD, binD, bltD, bLen, ixv, subD, wipeD, bindT, bindMany, seqD, putD, putI, backD, isLstAt, setP, cStep, fStep, Function.comp_def, this, h]
    · simp [ev, evs, evA, evAnd, evOr, evI, ex, exs, runF, shP, getV, getP, place, isTys, isTy, outsOf, List.range_succ, fillA, backA, hasBw, cmpD, binD, bltD, bLen, ixv, subD, wipeD, bindT, bindMany, seqD, putD, putI, backD, isLstAt, setP, cStep, fStep, Function.comp_def, bits]
  have hs := said_ok (n + 1) (v := cH p cs) (w := LN cr) (cr := cr) (share_cH p cs) (share_LN _ _) (by omega)
  have hb : bitl (p + cs.length) (bits p cr ++ bits cs.length S) := by
    have h1 := bits_ok p cr
    have h2 := bits_ok cs.length S
    exact ⟨by rw [List.length_append, h1.1, h2.1], fun y hy => by
      rcases List.mem_append.mp hy with hy | hy
      · exact h1.2 y hy
      · exact h2.2 y hy⟩
  have ha := answers_ok n (v := cH p cs) (w := ON (bits p cr ++ bits cs.length S)) (share_cH p cs) (share_LN true _) ok hb
  have hl : (bits p cr).length + (bits cs.length S).length ≤ lim := le_lim (by rw [(bits_ok p cr).1, (bits_ok _ _).1]; omega)
  have c2 : ∀ b : List Nat, ev (evF prog (n + 2)) [] F.carried_with.c2 [cH p cs, LN cr, LN S, LN (bits cs.length S), .hole, ON b, .hole] = some (ON (yes b), [cH p cs, LN cr, LN S, LN (bits cs.length S), .hole, LN b, .hole]) := fun b => by
    have hf : (b.zipIdx.filterMap fun q => if q.1 = 1 then some (D.int (q.2 : Nat)) else none) = (yes b).map fun x : Nat => D.int (x : Nat) := by
      rw [filterMap_if, yes, List.map_map]; rfl
    simp only [ON]
    rw [← hf]
    refine (comp_filt (env1 := [cH p cs, LN cr, LN S, LN (bits cs.length S), .hole, LN b, .hole]) (r := none) (xs := b.zipIdx) (fun q : Nat × Nat => D.tup [.int (q.2 : Nat), .int (q.1 : Nat)]) (fun q => if q.1 = 1 then some (.int (q.2 : Nat)) else none) ?_ fun q hq => ?_).trans ?_
    · simp [ev, evs, evA, evAnd, evOr, evI, ex, exs, runF, shP, getV, getP, place, isTys, isTy, outsOf, List.range_succ, fillA, backA, hasBw, cmpD, binD, bltD, bLen, ixv, subD, wipeD, bindT, bindMany, seqD, putD, putI, backD, isLstAt, setP, cStep, fStep, Function.comp_def, enumD_map]
    · obtain ⟨x, i⟩ := q
      by_cases h : x = 1
      · subst h; simp [ev, evs, evA, evAnd, evOr, evI, ex, exs, runF, shP, getV, getP, place, isTys, isTy, outsOf, List.range_succ, fillA, backA, hasBw, cmpD, binD, bltD, bLen, ixv, subD, wipeD, bindT, bindMany, seqD, putD, putI, backD, isLstAt, setP, cStep, fStep, Function.comp_def]
      · have : ((x : Int) == 1) = false := by rw [beq_eq_false_iff_ne]; omega
        simp [ev, evs, evA, evAnd, evOr, evI, ex, exs, runF, shP, getV, getP, place, isTys, isTy, outsOf, List.range_succ, fillA, backA, hasBw, cmpD, binD, bltD, bLen, ixv, subD, wipeD, bindT, bindMany, seqD, putD, putI, backD, isLstAt, setP, cStep, fStep, Function.comp_def, this, h]
    · simp [ev, evs, evA, evAnd, evOr, evI, ex, exs, runF, shP, getV, getP, place, isTys, isTy, outsOf, List.range_succ, fillA, backA, hasBw, cmpD, binD, bltD, bLen, ixv, subD, wipeD, bindT, bindMany, seqD, putD, putI, backD, isLstAt, setP, cStep, fStep, Function.comp_def]
  have c2' := c2 (ans cs (bits p cr ++ bits cs.length S))
  show runF (evF prog (n + 2)) F.carried_with [_, _, _] = _
  simp only [ON, List.map_append] at c1 hs ha c2'
  simp [ev, evs, evA, evAnd, evOr, evI, ex, exs, runF, shP, getV, getP, place, isTys, isTy, outsOf, List.range_succ, fillA, backA, hasBw, cmpD, binD, bltD, bLen, ixv, subD, wipeD, bindT, bindMany, seqD, putD, putI, backD, isLstAt, setP, cStep, fStep, Function.comp_def, F.carried_with, hu, hv, hw, c1, hs, hl, ha, c2', carry, fH]
theorem fresh_c (Γ : Fns) (x3 : D) {p : Nat} {cs : List (List Nat × List Nat)} {cr S : List Nat} (h : Γ 22 [cH p cs, LN cr, LN S] = some (ON (carry p cs cr S), [.hole, .hole, .hole])) :
    ev Γ [] F.chain_of.c1 [cH p cs, LN cr, ON S, x3, .hole] = some (ON (fresh p cs cr S), [cH p cs, LN cr, ON S, x3, .hole]) := by
  have hf : ((carry p cs cr S).filterMap fun i => if i ∉ S then some (D.int (i : Nat)) else none) = (fresh p cs cr S).map fun x : Nat => D.int (x : Nat) := by rw [filterMap_if]; rfl
  have c2 := closed_ON (carry p cs cr S)
  simp only [ON] at h c2 ⊢
  rw [← hf]
  refine (comp_filt (env1 := [cH p cs, LN cr, ON S, x3, .hole]) (r := none) (xs := carry p cs cr S) (fun i : Nat => D.int (i : Nat)) (fun i => if i ∉ S then some (.int (i : Nat)) else none) ?_ fun i hi => ?_).trans ?_
  · simp [ev, evs, evA, evAnd, evOr, evI, ex, exs, runF, shP, getV, getP, place, isTys, isTy, outsOf, List.range_succ, fillA, backA, hasBw, cmpD, binD, bltD, bLen, ixv, subD, wipeD, bindT, bindMany, seqD, putD, putI, backD, isLstAt, setP, cStep, fStep, Function.comp_def, h, c2, iosOf]
  · have := any_cast i S
    by_cases hi : i ∈ S
    · simp only [hi, decide_true] at this
      simp [ev, evs, evA, evAnd, evOr, evI, ex, exs, runF, shP, getV, getP, place, isTys, isTy, outsOf, List.range_succ, fillA, backA, hasBw, cmpD, binD, bltD, bLen, ixv, subD, wipeD, bindT, bindMany, seqD, putD, putI, backD, isLstAt, setP, cStep, fStep, Function.comp_def, this, hi]
    · simp only [hi, decide_false] at this
      simp [ev, evs, evA, evAnd, evOr, evI, ex, exs, runF, shP, getV, getP, place, isTys, isTy, outsOf, List.range_succ, fillA, backA, hasBw, cmpD, binD, bltD, bLen, ixv, subD, wipeD, bindT, bindMany, seqD, putD, putI, backD, isLstAt, setP, cStep, fStep, Function.comp_def, this, hi]
  · simp [ev, evs, evA, evAnd, evOr, evI, ex, exs, runF, shP, getV, getP, place, isTys, isTy, outsOf, List.range_succ, fillA, backA, hasBw, cmpD, binD, bltD, bLen, ixv, subD, wipeD, bindT, bindMany, seqD, putD, putI, backD, isLstAt, setP, cStep, fStep, Function.comp_def]
theorem emp3 (Γ : Fns) (a b c : D) (l : List Nat) : ev Γ [] (.emp 3 [] true) [a, b, c, ON l, .hole] = some (.bl (!l.isEmpty), [a, b, c, ON l, .hole]) := by
  have h := eqD_nats true true l []
  have e : (l == []) = l.isEmpty := by cases l <;> rfl
  rw [e] at h
  simp only [List.map_nil] at h
  simp [ev, evs, evA, evAnd, evOr, evI, ex, exs, runF, shP, getV, getP, place, isTys, isTy, outsOf, List.range_succ, fillA, backA, hasBw, cmpD, binD, bltD, bLen, ixv, subD, wipeD, bindT, bindMany, seqD, putD, putI, backD, isLstAt, setP, cStep, fStep, Function.comp_def, h]
theorem chain_ok (n : Nat) {u v : D} {p : Nat} {cs : List (List Nat × List Nat)} {cr : List Nat} (hu : share u = cH p cs) (hv : share v = LN cr) (ok : okH p cs) (oc : okCr p cr) : ∃ S, okPre p cs cr S ∧ (∀ k ∈ carry p cs cr S, k ∈ S) ∧ evF prog (n + 7) 23 [u, v] = some (ON S, [.hole, .hole]) := by
  have p6 := ok.p6
  have c8 := ok.c8
  have cl := oc.len
  have h1 := check_h n (v := cH p cs) (share_cH p cs) ok
  have h2 := check_p (n + 2) (v := cH p cs) (w := LN cr) (p := p) (cs := cs) (share_cH p cs) (share_LN _ _) oc.asc oc.bd (by omega)
  obtain ⟨N, hN, he, hne, hlen⟩ := chn_end (cr := cr) ok
  have hc : ∀ S, evF prog (n + 6) 22 [cH p cs, LN cr, LN S] = some (ON (carry p cs cr S), [.hole, .hole, .hole]) := fun S => carried_ok (n + 3) (share_cH p cs) (share_LN _ _) (share_LN _ _) ok
  refine ⟨chn p cs cr N, chn_pre N, fresh_nil.mp he, ?_⟩
  have hf0 : fresh p cs cr [] = carry p cs cr [] := by rw [fresh, List.filter_eq_self]; simp [ev, evs, evA, evAnd, evOr, evI, ex, exs, runF, shP, getV, getP, place, isTys, isTy, outsOf, List.range_succ, fillA, backA, hasBw, cmpD, binD, bltD, bLen, ixv, subD, wipeD, bindT, bindMany, seqD, putD, putI, backD, isLstAt, setP, cStep, fStep, Function.comp_def]
  obtain ⟨env', e, rfl⟩ := while_rel (Γ := evF prog (n + 6)) (ios := []) (body := F.chain_of.b1) (c := .emp 3 [] true) (env := [cH p cs, LN cr, ON [], ON (carry p cs cr []), .hole]) N
    (fun k env => env = [cH p cs, LN cr, ON (chn p cs cr k), ON (fresh p cs cr (chn p cs cr k)), .hole]) (by rw [chn, hf0]) (by unfold wfuel; omega) (by
      rintro k env hk rfl
      have hn := hne k hk
      have hcl : (chn p cs cr k).length < lim := lt_lim (by rw [hlen k (by omega)]; omega)
      have hfc := fresh_c (evF prog (n + 6)) (ON (fresh p cs cr (chn p cs cr k))) (S := chn p cs cr (k + 1)) (hc _)
      rw [chn] at hfc ⊢
      cases hfr : fresh p cs cr (chn p cs cr k) with
      | nil => exact absurd hfr hn
      | cons x l =>
        rw [hfr] at hfc
        simp only [List.head?_cons] at hfc ⊢
        refine ⟨[cH p cs, LN cr, ON (chn p cs cr k), ON (x :: l), .hole], _, emp3 _ _ _ _ _, ?_, rfl⟩
        simp only [F.chain_of.b1]
        rw [exs_nx (env' := [cH p cs, LN cr, ON (chn p cs cr k ++ [x]), ON (x :: l), .hole]) (by simp [ev, evs, evA, evAnd, evOr, evI, ex, exs, runF, shP, getV, getP, place, isTys, isTy, outsOf, List.range_succ, fillA, backA, hasBw, cmpD, binD, bltD, bLen, ixv, subD, wipeD, bindT, bindMany, seqD, putD, putI, backD, isLstAt, setP, cStep, fStep, Function.comp_def, hcl])]
        simp only [exs, ex, hfc, List.not_mem_nil, if_false, Option.map_some, List.set]) (by
      rintro env rfl
      rw [he]
      exact ⟨[cH p cs, LN cr, ON (chn p cs cr N), ON [], .hole], emp3 _ _ _ _ _, rfl⟩)
  have e' : ex (evF prog (n + 6)) [] F.chain_of.l1 [cH p cs, LN cr, ON [], ON (carry p cs cr []), .hole] = _ := e
  have hc0 := hc []
  have c2 := closed_ON (carry p cs cr [])
  show runF (evF prog (n + 6)) F.chain_of [_, _] = _
  simp only [ON, LN, List.map_nil] at hc0 c2 e'
  simp [ev, evs, evA, evAnd, evOr, evI, ex, exs, runF, shP, getV, getP, place, isTys, isTy, outsOf, List.range_succ, fillA, backA, hasBw, cmpD, binD, bltD, bLen, ixv, subD, wipeD, bindT, bindMany, seqD, putD, putI, backD, isLstAt, setP, cStep, fStep, Function.comp_def, F.chain_of, show share (.lst true []) = .lst false [] from rfl, hu, hv, h1, h2, hc0, c2, iosOf, e']
end K81

namespace K81
open OE PySem PySem.Spec PyProof.Rows L2

/-- what may stand in a list that is said to be a chain -/
def isAtom : D → Bool
  | .non => true | .bl _ => true | .int _ => true | .str s => plainD (.str s)
  | _ => false
/-- a company's number -/
def validB (c : Nat) : D → Bool
  | .int i => decide (0 ≤ i) && decide (i < (c : Int))
  | _ => false
theorem atom_plain {d : D} (h : isAtom d = true) : plainD d = true := by cases d <;> simp_all [ev, evs, evA, evAnd, evOr, evI, ex, exs, runF, shP, getV, getP, place, isTys, isTy, outsOf, List.range_succ, fillA, backA, hasBw, cmpD, binD, bltD, bLen, ixv, subD, wipeD, bindT, bindMany, seqD, putD, putI, backD, isLstAt, setP, cStep, fStep, Function.comp_def, isAtom, plainD]
theorem atom_share {d : D} (h : isAtom d = true) : share d = d := by cases d <;> simp_all [ev, evs, evA, evAnd, evOr, evI, ex, exs, runF, shP, getV, getP, place, isTys, isTy, outsOf, List.range_succ, fillA, backA, hasBw, cmpD, binD, bltD, bLen, ixv, subD, wipeD, bindT, bindMany, seqD, putD, putI, backD, isLstAt, setP, cStep, fStep, Function.comp_def, isAtom, share]
theorem atom_ne {d : D} (h : isAtom d = true) : d ≠ .hole := by rintro rfl; simp [ev, evs, evA, evAnd, evOr, evI, ex, exs, runF, shP, getV, getP, place, isTys, isTy, outsOf, List.range_succ, fillA, backA, hasBw, cmpD, binD, bltD, bLen, ixv, subD, wipeD, bindT, bindMany, seqD, putD, putI, backD, isLstAt, setP, cStep, fStep, Function.comp_def, isAtom] at h
theorem atoms_plain {l : List D} (h : ∀ d ∈ l, isAtom d = true) : l.all plainD = true := List.all_eq_true.mpr fun d hd => atom_plain (h d hd)
theorem valid_nats {c : Nat} {l : List D} (h : ∀ d ∈ l, validB c d = true) : ∃ S : List Nat, l = S.map (fun x : Nat => .int (x : Nat)) ∧ ∀ x ∈ S, x < c := by
  induction l with
  | nil => exact ⟨[], rfl, by simp [ev, evs, evA, evAnd, evOr, evI, ex, exs, runF, shP, getV, getP, place, isTys, isTy, outsOf, List.range_succ, fillA, backA, hasBw, cmpD, binD, bltD, bLen, ixv, subD, wipeD, bindT, bindMany, seqD, putD, putI, backD, isLstAt, setP, cStep, fStep, Function.comp_def]⟩
  | cons d l ih =>
    obtain ⟨S, rfl, hS⟩ := ih fun x hx => h x (List.mem_cons_of_mem _ hx)
    have hd := h d List.mem_cons_self
    cases d <;> simp [ev, evs, evA, evAnd, evOr, evI, ex, exs, runF, shP, getV, getP, place, isTys, isTy, outsOf, List.range_succ, fillA, backA, hasBw, cmpD, binD, bltD, bLen, ixv, subD, wipeD, bindT, bindMany, seqD, putD, putI, backD, isLstAt, setP, cStep, fStep, Function.comp_def, validB] at hd
    rename_i i
    obtain ⟨k, rfl⟩ := Int.eq_ofNat_of_zero_le hd.1
    exact ⟨k :: S, rfl, fun x hx => by
      rcases List.mem_cons.mp hx with rfl | hx
      · have := hd.2; omega
      · exact hS x hx⟩
theorem nats_valid {c : Nat} {S : List Nat} (h : ∀ x ∈ S, x < c) : ((S.map fun x : Nat => D.int (x : Nat)).filter fun d => !validB c d) = [] := by
  rw [List.filter_eq_nil_iff]
  intro d hd
  obtain ⟨x, hx, rfl⟩ := List.mem_map.mp hd
  have := h x hx
  simp [ev, evs, evA, evAnd, evOr, evI, ex, exs, runF, shP, getV, getP, place, isTys, isTy, outsOf, List.range_succ, fillA, backA, hasBw, cmpD, binD, bltD, bLen, ixv, subD, wipeD, bindT, bindMany, seqD, putD, putI, backD, isLstAt, setP, cStep, fStep, Function.comp_def, validB]; omega
def intB : D → Bool
  | .int _ => true
  | _ => false
def cntB : D → Bool
  | .int i => decide (0 ≤ i)
  | _ => false
theorem whole_atom (n : Nat) {d : D} (h : isAtom d = true) : evF prog (n + 1) 0 [d] = some (.bl (intB d), [.hole]) := by
  have hs := atom_share h
  show runF (evF prog n) F.is_whole [_] = _
  cases d <;> simp [ev, evs, evA, evAnd, evOr, evI, ex, exs, runF, shP, getV, getP, place, isTys, isTy, outsOf, List.range_succ, fillA, backA, hasBw, cmpD, binD, bltD, bLen, ixv, subD, wipeD, bindT, bindMany, seqD, putD, putI, backD, isLstAt, setP, cStep, fStep, Function.comp_def, isAtom] at h <;> simp [ev, evs, evA, evAnd, evOr, evI, ex, exs, runF, shP, getV, getP, place, isTys, isTy, outsOf, List.range_succ, fillA, backA, hasBw, cmpD, binD, bltD, bLen, ixv, subD, wipeD, bindT, bindMany, seqD, putD, putI, backD, isLstAt, setP, cStep, fStep, Function.comp_def, F.is_whole, intB, hs]
theorem count_atom (n : Nat) {d : D} (h : isAtom d = true) : evF prog (n + 2) 1 [d] = some (.bl (cntB d), [.hole]) := by
  have hs := atom_share h
  have w := whole_atom n h
  show runF (evF prog (n + 1)) F.is_count [_] = _
  cases d <;> simp only [isAtom, Bool.false_eq_true] at h <;> simp only [intB] at w
  · simp [ev, evs, evA, evAnd, evOr, evI, ex, exs, runF, shP, getV, getP, place, isTys, isTy, outsOf, List.range_succ, fillA, backA, hasBw, cmpD, binD, bltD, bLen, ixv, subD, wipeD, bindT, bindMany, seqD, putD, putI, backD, isLstAt, setP, cStep, fStep, Function.comp_def, F.is_count, w, cntB]
  · simp [ev, evs, evA, evAnd, evOr, evI, ex, exs, runF, shP, getV, getP, place, isTys, isTy, outsOf, List.range_succ, fillA, backA, hasBw, cmpD, binD, bltD, bLen, ixv, subD, wipeD, bindT, bindMany, seqD, putD, putI, backD, isLstAt, setP, cStep, fStep, Function.comp_def, F.is_count, w, cntB]
  · rename_i i
    by_cases h0 : 0 ≤ i <;> simp [ev, evs, evA, evAnd, evOr, evI, ex, exs, runF, shP, getV, getP, place, isTys, isTy, outsOf, List.range_succ, fillA, backA, hasBw, cmpD, binD, bltD, bLen, ixv, subD, wipeD, bindT, bindMany, seqD, putD, putI, backD, isLstAt, setP, cStep, fStep, Function.comp_def, F.is_count, w, cntB, h0]
  · simp [ev, evs, evA, evAnd, evOr, evI, ex, exs, runF, shP, getV, getP, place, isTys, isTy, outsOf, List.range_succ, fillA, backA, hasBw, cmpD, binD, bltD, bLen, ixv, subD, wipeD, bindT, bindMany, seqD, putD, putI, backD, isLstAt, setP, cStep, fStep, Function.comp_def, F.is_count, w, cntB, hs]
theorem isch_c1 (n : Nat) {p : Nat} {cs : List (List Nat × List Nat)} {cr : List Nat} {xs : List D} (h : ∀ d ∈ xs, isAtom d = true) (hx : share (.lst false xs) = .lst false xs) : ev (evF prog (n + 2)) [] F.is_chain.c1 [cH p cs, LN cr, .lst false xs, .hole, .hole] = some (.lst true (xs.filter fun d => !validB cs.length d), [cH p cs, LN cr, .lst false xs, .hole, .hole]) := by
  have hf : (xs.filterMap fun d => if (!validB cs.length d) = true then some (id d) else none) = xs.filter fun d => !validB cs.length d := by rw [filterMap_if]; simp [ev, evs, evA, evAnd, evOr, evI, ex, exs, runF, shP, getV, getP, place, isTys, isTy, outsOf, List.range_succ, fillA, backA, hasBw, cmpD, binD, bltD, bLen, ixv, subD, wipeD, bindT, bindMany, seqD, putD, putI, backD, isLstAt, setP, cStep, fStep, Function.comp_def]
  rw [← hf]
  refine (comp_filt (env1 := [cH p cs, LN cr, .lst false xs, .hole, .hole]) (r := none) (xs := xs) id (fun d => if (!validB cs.length d) = true then some (id d) else none) ?_ fun d hd => ?_).trans ?_
  · simp [ev, evs, evA, evAnd, evOr, evI, ex, exs, runF, shP, getV, getP, place, isTys, isTy, outsOf, List.range_succ, fillA, backA, hasBw, cmpD, binD, bltD, bLen, ixv, subD, wipeD, bindT, bindMany, seqD, putD, putI, backD, isLstAt, setP, cStep, fStep, Function.comp_def, hx]
  · have ha := h d hd
    have hc := count_atom n ha
    have hs := atom_share ha
    cases d <;> simp only [isAtom, Bool.false_eq_true] at ha <;> simp only [cntB] at hc
    · simp [ev, evs, evA, evAnd, evOr, evI, ex, exs, runF, shP, getV, getP, place, isTys, isTy, outsOf, List.range_succ, fillA, backA, hasBw, cmpD, binD, bltD, bLen, ixv, subD, wipeD, bindT, bindMany, seqD, putD, putI, backD, isLstAt, setP, cStep, fStep, Function.comp_def, hc, validB]
    · simp [ev, evs, evA, evAnd, evOr, evI, ex, exs, runF, shP, getV, getP, place, isTys, isTy, outsOf, List.range_succ, fillA, backA, hasBw, cmpD, binD, bltD, bLen, ixv, subD, wipeD, bindT, bindMany, seqD, putD, putI, backD, isLstAt, setP, cStep, fStep, Function.comp_def, hc, validB]
    rotate_left
    · simp [ev, evs, evA, evAnd, evOr, evI, ex, exs, runF, shP, getV, getP, place, isTys, isTy, outsOf, List.range_succ, fillA, backA, hasBw, cmpD, binD, bltD, bLen, ixv, subD, wipeD, bindT, bindMany, seqD, putD, putI, backD, isLstAt, setP, cStep, fStep, Function.comp_def, hc, hs, validB]
    rename_i i
    by_cases h1 : 0 ≤ i
    · by_cases h2 : i < (cs.length : Int)
      · simp [ev, evs, evA, evAnd, evOr, evI, ex, exs, runF, shP, getV, getP, place, isTys, isTy, outsOf, List.range_succ, fillA, backA, hasBw, cmpD, binD, bltD, bLen, ixv, subD, wipeD, bindT, bindMany, seqD, putD, putI, backD, isLstAt, setP, cStep, fStep, Function.comp_def, hc, validB, h1, h2, show ¬ (cs.length : Int) ≤ i by omega]
      · simp [ev, evs, evA, evAnd, evOr, evI, ex, exs, runF, shP, getV, getP, place, isTys, isTy, outsOf, List.range_succ, fillA, backA, hasBw, cmpD, binD, bltD, bLen, ixv, subD, wipeD, bindT, bindMany, seqD, putD, putI, backD, isLstAt, setP, cStep, fStep, Function.comp_def, hc, validB, h1, h2, show (cs.length : Int) ≤ i by omega]
    · simp [ev, evs, evA, evAnd, evOr, evI, ex, exs, runF, shP, getV, getP, place, isTys, isTy, outsOf, List.range_succ, fillA, backA, hasBw, cmpD, binD, bltD, bLen, ixv, subD, wipeD, bindT, bindMany, seqD, putD, putI, backD, isLstAt, setP, cStep, fStep, Function.comp_def, hc, validB, h1]
  · simp [ev, evs, evA, evAnd, evOr, evI, ex, exs, runF, shP, getV, getP, place, isTys, isTy, outsOf, List.range_succ, fillA, backA, hasBw, cmpD, binD, bltD, bLen, ixv, subD, wipeD, bindT, bindMany, seqD, putD, putI, backD, isLstAt, setP, cStep, fStep, Function.comp_def]
theorem zip_at {S : List Nat} {q : Nat × Nat} (h : q ∈ S.zipIdx) : ∃ hi : q.2 < S.length, S[q.2] = q.1 := by
  obtain ⟨x, i⟩ := q
  have := List.mem_zipIdx_iff_getElem?.mp h
  obtain ⟨hi, e⟩ := List.getElem?_eq_some_iff.mp this
  exact ⟨hi, e⟩
def badQ (p : Nat) (cs : List (List Nat × List Nat)) (cr S : List Nat) (q : Nat × Nat) : Bool := !(decide (q.1 ∉ S.take q.2) && decide (q.1 ∈ carry p cs cr (S.take q.2)))
theorem badQ_find {p : Nat} {cs : List (List Nat × List Nat)} {cr S : List Nat} : S.zipIdx.find? (badQ p cs cr S) = none ↔ ((List.range S.length).all fun i => goodAt p cs cr S i) = true := by
  rw [List.find?_eq_none, List.all_eq_true]
  constructor
  · intro h i hi
    rw [List.mem_range] at hi
    have := h (S[i], i) (List.mem_zipIdx_iff_getElem?.mpr (List.getElem?_eq_getElem hi))
    simp only [badQ, Bool.not_eq_true', Bool.not_eq_false'] at this
    rw [goodAt, List.getElem?_eq_getElem hi]
    simpa [ev, evs, evA, evAnd, evOr, evI, ex, exs, runF, shP, getV, getP, place, isTys, isTy, outsOf, List.range_succ, fillA, backA, hasBw, cmpD, binD, bltD, bLen, ixv, subD, wipeD, bindT, bindMany, seqD, putD, putI, backD, isLstAt, setP, cStep, fStep, Function.comp_def] using this
  · intro h q hq
    obtain ⟨hi, e⟩ := zip_at hq
    have := h q.2 (List.mem_range.mpr hi)
    rw [goodAt, List.getElem?_eq_getElem hi, Option.getD_some, e] at this
    simp only [badQ, this]; simp [ev, evs, evA, evAnd, evOr, evI, ex, exs, runF, shP, getV, getP, place, isTys, isTy, outsOf, List.range_succ, fillA, backA, hasBw, cmpD, binD, bltD, bLen, ixv, subD, wipeD, bindT, bindMany, seqD, putD, putI, backD, isLstAt, setP, cStep, fStep, Function.comp_def]
theorem fresh_empty {p : Nat} {cs : List (List Nat × List Nat)} {cr S : List Nat} : (fresh p cs cr S).isEmpty = (carry p cs cr S).all fun k => decide (k ∈ S) := by
  rw [Bool.eq_iff_iff, List.isEmpty_iff, fresh_nil, List.all_eq_true]
  simp [ev, evs, evA, evAnd, evOr, evI, ex, exs, runF, shP, getV, getP, place, isTys, isTy, outsOf, List.range_succ, fillA, backA, hasBw, cmpD, binD, bltD, bLen, ixv, subD, wipeD, bindT, bindMany, seqD, putD, putI, backD, isLstAt, setP, cStep, fStep, Function.comp_def]
theorem ischain_good (n : Nat) {u v w : D} {p : Nat} {cs : List (List Nat × List Nat)} {cr S : List Nat} (hu : share u = cH p cs) (hv : share v = LN cr) (hw : share w = LN S) (ok : okH p cs) (oc : okCr p cr) (hS : ∀ x ∈ S, x < cs.length) (hl : S.length ≤ 1000) :
    evF prog (n + 7) 24 [u, v, w] = some (.bl (chB p cs cr S), [.hole, .hole, .hole]) := by
  have p6 := ok.p6
  have c8 := ok.c8
  have cl := oc.len
  have h1 := check_h n (v := cH p cs) (share_cH p cs) ok
  have h2 := check_p (n + 2) (v := cH p cs) (w := LN cr) (p := p) (cs := cs) (share_cH p cs) (share_LN _ _) oc.asc oc.bd (by omega)
  have hc : ∀ (o : Bool) S, evF prog (n + 6) 22 [cH p cs, LN cr, .lst o (S.map fun x : Nat => .int (x : Nat))] = some (ON (carry p cs cr S), [.hole, .hole, .hole]) := fun o S => carried_ok (n + 3) (share_cH p cs) (share_LN _ _) (share_LN _ _) ok
  have c1 := isch_c1 (n + 4) (p := p) (cs := cs) (cr := cr) (xs := S.map fun x : Nat => .int (x : Nat)) (fun d hd => by obtain ⟨x, -, rfl⟩ := List.mem_map.mp hd; rfl) (share_LN _ _)
  rw [nats_valid hS] at c1
  have tk : ∀ i, (S.map fun x : Nat => D.int (x : Nat)).take i = (S.take i).map fun x : Nat => D.int (x : Nat) := fun i => (List.map_take ..).symm
  have hit : evI (evF prog (n + 6)) [] (.enum (.sh 2)) [cH p cs, LN cr, LN S, .hole, .hole] = some (S.zipIdx.map (fun q : Nat × Nat => .tup [.int (q.2 : Nat), .int (q.1 : Nat)]), [cH p cs, LN cr, LN S, .hole, .hole], none) := by
    simp [ev, evs, evA, evAnd, evOr, evI, ex, exs, runF, shP, getV, getP, place, isTys, isTy, outsOf, List.range_succ, fillA, backA, hasBw, cmpD, binD, bltD, bLen, ixv, subD, wipeD, bindT, bindMany, seqD, putD, putI, backD, isLstAt, setP, cStep, fStep, Function.comp_def, enumD_map]
  have key := loopF_find2 (step := fStep (evF prog (n + 6)) [] none (.tp [3, 4]) F.is_chain.b1) (fun q : Nat × Nat => .tup [.int (q.2 : Nat), .int (q.1 : Nat)]) (fun env => ∃ a b, env = [cH p cs, LN cr, LN S, a, b]) (badQ p cs cr S) (fun _ => .bl false) S.zipIdx [cH p cs, LN cr, LN S, .hole, .hole] ⟨_, _, rfl⟩ (by
    rintro env ⟨x, i⟩ hq ⟨a, b, rfl⟩
    have hcn := cut_nat (S.map fun x : Nat => D.int (x : Nat)) i
    rw [tk] at hcn
    have hc' := hc true (S.take i)
    have m1 := any_cast x (S.take i)
    have m2 := any_cast x (carry p cs cr (S.take i))
    simp only [ON] at hc'
    simp only [badQ]
    by_cases q1 : x ∈ S.take i
    · simp only [q1, decide_true] at m1
      refine ⟨fun _ => ⟨_, by simp [ev, evs, evA, evAnd, evOr, evI, ex, exs, runF, shP, getV, getP, place, isTys, isTy, outsOf, List.range_succ, fillA, backA, hasBw, cmpD, binD, bltD, bLen, ixv, subD, wipeD, bindT, bindMany, seqD, putD, putI, backD, isLstAt, setP, cStep, fStep, Function.comp_def, -List.map_take, F.is_chain.b1, slcD, hcn, m1]; rfl⟩, fun hp => by simp [ev, evs, evA, evAnd, evOr, evI, ex, exs, runF, shP, getV, getP, place, isTys, isTy, outsOf, List.range_succ, fillA, backA, hasBw, cmpD, binD, bltD, bLen, ixv, subD, wipeD, bindT, bindMany, seqD, putD, putI, backD, isLstAt, setP, cStep, fStep, Function.comp_def, q1] at hp⟩
    · simp only [q1, decide_false] at m1
      by_cases q2 : x ∈ carry p cs cr (S.take i)
      · simp only [q2, decide_true] at m2
        refine ⟨fun hp => by simp [ev, evs, evA, evAnd, evOr, evI, ex, exs, runF, shP, getV, getP, place, isTys, isTy, outsOf, List.range_succ, fillA, backA, hasBw, cmpD, binD, bltD, bLen, ixv, subD, wipeD, bindT, bindMany, seqD, putD, putI, backD, isLstAt, setP, cStep, fStep, Function.comp_def, q1, q2] at hp, fun _ => ⟨[cH p cs, LN cr, LN S, .int (i : Nat), .int (x : Nat)], by simp [ev, evs, evA, evAnd, evOr, evI, ex, exs, runF, shP, getV, getP, place, isTys, isTy, outsOf, List.range_succ, fillA, backA, hasBw, cmpD, binD, bltD, bLen, ixv, subD, wipeD, bindT, bindMany, seqD, putD, putI, backD, isLstAt, setP, cStep, fStep, Function.comp_def, -List.map_take, F.is_chain.b1, slcD, hcn, m1, m2, hc'], _, _, rfl⟩⟩
      · simp only [q2, decide_false] at m2
        refine ⟨fun _ => ⟨_, by simp [ev, evs, evA, evAnd, evOr, evI, ex, exs, runF, shP, getV, getP, place, isTys, isTy, outsOf, List.range_succ, fillA, backA, hasBw, cmpD, binD, bltD, bLen, ixv, subD, wipeD, bindT, bindMany, seqD, putD, putI, backD, isLstAt, setP, cStep, fStep, Function.comp_def, -List.map_take, F.is_chain.b1, slcD, hcn, m1, m2, hc']; rfl⟩, fun hp => by simp [ev, evs, evA, evAnd, evOr, evI, ex, exs, runF, shP, getV, getP, place, isTys, isTy, outsOf, List.range_succ, fillA, backA, hasBw, cmpD, binD, bltD, bLen, ixv, subD, wipeD, bindT, bindMany, seqD, putD, putI, backD, isLstAt, setP, cStep, fStep, Function.comp_def, q1, q2] at hp⟩)
  obtain ⟨k1, k2⟩ := key
  show runF (evF prog (n + 6)) F.is_chain [_, _, _] = _
  cases hf : S.zipIdx.find? (badQ p cs cr S) with
  | some q =>
    obtain ⟨env', e⟩ := k1 q hf
    have e' : ex (evF prog (n + 6)) [] F.is_chain.l1 [cH p cs, LN cr, LN S, .hole, .hole] = _ := ex_for2 hit e
    have hb : chB p cs cr S = false := by
      have : ¬ S.zipIdx.find? (badQ p cs cr S) = none := by rw [hf]; simp [ev, evs, evA, evAnd, evOr, evI, ex, exs, runF, shP, getV, getP, place, isTys, isTy, outsOf, List.range_succ, fillA, backA, hasBw, cmpD, binD, bltD, bLen, ixv, subD, wipeD, bindT, bindMany, seqD, putD, putI, backD, isLstAt, setP, cStep, fStep, Function.comp_def]
      rw [badQ_find] at this
      rw [chB, Bool.eq_false_iff.mpr this]; rfl
    rw [hb]
    simp [ev, evs, evA, evAnd, evOr, evI, ex, exs, runF, shP, getV, getP, place, isTys, isTy, outsOf, List.range_succ, fillA, backA, hasBw, cmpD, binD, bltD, bLen, ixv, subD, wipeD, bindT, bindMany, seqD, putD, putI, backD, isLstAt, setP, cStep, fStep, Function.comp_def, F.is_chain, hu, hv, hw, h1, h2, c1, e', mapF]
  | none =>
    obtain ⟨env', e, a, b, rfl⟩ := k2 hf
    have e' : ex (evF prog (n + 6)) [] F.is_chain.l1 [cH p cs, LN cr, LN S, .hole, .hole] = _ := ex_for2 hit e
    have hb : chB p cs cr S = (fresh p cs cr S).isEmpty := by
      rw [chB, badQ_find.mp hf, fresh_empty]; rfl
    have c2 : ev (evF prog (n + 6)) [] F.is_chain.c2 [cH p cs, LN cr, LN S, a, b] = some (ON (fresh p cs cr S), [cH p cs, LN cr, LN S, a, b]) := by
      have hfr : ((carry p cs cr S).filterMap fun i => if i ∉ S then some (D.int (i : Nat)) else none) = (fresh p cs cr S).map fun x : Nat => D.int (x : Nat) := by rw [filterMap_if]; rfl
      have hc' := hc false S
      simp only [ON] at hc' ⊢
      rw [← hfr]
      refine (comp_filt (env1 := [cH p cs, LN cr, LN S, a, b]) (r := none) (xs := carry p cs cr S) (fun i : Nat => D.int (i : Nat)) (fun i => if i ∉ S then some (.int (i : Nat)) else none) ?_ fun i hi => ?_).trans ?_
      · simp [ev, evs, evA, evAnd, evOr, evI, ex, exs, runF, shP, getV, getP, place, isTys, isTy, outsOf, List.range_succ, fillA, backA, hasBw, cmpD, binD, bltD, bLen, ixv, subD, wipeD, bindT, bindMany, seqD, putD, putI, backD, isLstAt, setP, cStep, fStep, Function.comp_def, hc']
      · have := any_cast i S
        by_cases hi : i ∈ S
        · simp only [hi, decide_true] at this
          simp [ev, evs, evA, evAnd, evOr, evI, ex, exs, runF, shP, getV, getP, place, isTys, isTy, outsOf, List.range_succ, fillA, backA, hasBw, cmpD, binD, bltD, bLen, ixv, subD, wipeD, bindT, bindMany, seqD, putD, putI, backD, isLstAt, setP, cStep, fStep, Function.comp_def, this, hi]
        · simp only [hi, decide_false] at this
          simp [ev, evs, evA, evAnd, evOr, evI, ex, exs, runF, shP, getV, getP, place, isTys, isTy, outsOf, List.range_succ, fillA, backA, hasBw, cmpD, binD, bltD, bLen, ixv, subD, wipeD, bindT, bindMany, seqD, putD, putI, backD, isLstAt, setP, cStep, fStep, Function.comp_def, this, hi]
      · simp [ev, evs, evA, evAnd, evOr, evI, ex, exs, runF, shP, getV, getP, place, isTys, isTy, outsOf, List.range_succ, fillA, backA, hasBw, cmpD, binD, bltD, bLen, ixv, subD, wipeD, bindT, bindMany, seqD, putD, putI, backD, isLstAt, setP, cStep, fStep, Function.comp_def]
    have he := eqD_nats true true (fresh p cs cr S) []
    have e0 : (fresh p cs cr S == []) = (fresh p cs cr S).isEmpty := by cases fresh p cs cr S <;> rfl
    rw [e0] at he
    simp only [List.map_nil] at he
    simp only [ON] at c2
    rw [hb]
    simp [ev, evs, evA, evAnd, evOr, evI, ex, exs, runF, shP, getV, getP, place, isTys, isTy, outsOf, List.range_succ, fillA, backA, hasBw, cmpD, binD, bltD, bLen, ixv, subD, wipeD, bindT, bindMany, seqD, putD, putI, backD, isLstAt, setP, cStep, fStep, Function.comp_def, F.is_chain, hu, hv, hw, h1, h2, c1, e', c2, he, mapF]
end K81

namespace K81
open OE PySem PySem.Spec PyProof.Rows L2

theorem fresh_eq {p : Nat} {cs : List (List Nat × List Nat)} {cr S : List Nat} (ok : okH p cs) : fresh p cs cr S = (List.range cs.length).filter fun k => decide (((fH p cs cr (bits cs.length S))[k]?).getD 0 = 1 ∧ k ∉ S) := by
  rw [fresh, carry, yes_eq, List.filter_filter, ((fH_ris ok cr).bits _ (bits_ok _ _)).1]
  refine List.filter_congr fun k _ => ?_
  by_cases h1 : ((fH p cs cr (bits cs.length S))[k]?).getD 0 = 1 <;> by_cases h2 : k ∈ S <;> simp [ev, evs, evA, evAnd, evOr, evI, ex, exs, runF, shP, getV, getP, place, isTys, isTy, outsOf, List.range_succ, fillA, backA, hasBw, cmpD, binD, bltD, bLen, ixv, subD, wipeD, bindT, bindMany, seqD, putD, putI, backD, isLstAt, setP, cStep, fStep, Function.comp_def, h1, h2]
theorem lawc_bits (Γ : Fns) {p : Nat} {cs : List (List Nat × List Nat)} {cr S : List Nat} (x6 : D) (i : Nat) (c8 : cs.length ≤ 8) : ev Γ [] F._law_is_chain.c2 [cH p cs, LN cr, LN S, .int (cs.length : Nat), .hole, .int (i : Nat), x6, .hole, .hole] = some (ON (bits cs.length (S.take i)), [cH p cs, LN cr, LN S, .int (cs.length : Nat), .hole, .int (i : Nat), x6, .hole, .hole]) := by
  have tk : ∀ i, (S.map fun x : Nat => D.int (x : Nat)).take i = (S.take i).map fun x : Nat => D.int (x : Nat) := fun i => (List.map_take ..).symm
  have hcn := cut_nat (S.map fun x : Nat => D.int (x : Nat)) i
  rw [tk] at hcn
  refine (comp_map (env1 := [cH p cs, LN cr, LN S, .int (cs.length : Nat), .hole, .int (i : Nat), x6, .hole, .hole]) (r := none) (xs := List.range cs.length) (fun i : Nat => D.int (i : Nat)) (fun k => .int ((if k ∈ S.take i then 1 else 0 : Nat) : Nat)) ?_ fun k hk => ?_).trans ?_
  · simp [ev, evs, evA, evAnd, evOr, evI, ex, exs, runF, shP, getV, getP, place, isTys, isTy, outsOf, List.range_succ, fillA, backA, hasBw, cmpD, binD, bltD, bLen, ixv, subD, wipeD, bindT, bindMany, seqD, putD, putI, backD, isLstAt, setP, cStep, fStep, Function.comp_def, rngs_zero cs.length (by omega)]
  · have := any_cast k (S.take i)
    by_cases h : k ∈ S.take i
    · simp only [h, decide_true] at this
      simp [ev, evs, evA, evAnd, evOr, evI, ex, exs, runF, shP, getV, getP, place, isTys, isTy, outsOf, List.range_succ, fillA, backA, hasBw, cmpD, binD, bltD, bLen, ixv, subD, wipeD, bindT, bindMany, seqD, putD, putI, backD, isLstAt, setP, cStep, fStep, Function.comp_def, -List.map_take, slcD, hcn, this, h, bInt]
    · simp only [h, decide_false] at this
      simp [ev, evs, evA, evAnd, evOr, evI, ex, exs, runF, shP, getV, getP, place, isTys, isTy, outsOf, List.range_succ, fillA, backA, hasBw, cmpD, binD, bltD, bLen, ixv, subD, wipeD, bindT, bindMany, seqD, putD, putI, backD, isLstAt, setP, cStep, fStep, Function.comp_def, -List.map_take, slcD, hcn, this, h, bInt]
  · simp [ev, evs, evA, evAnd, evOr, evI, ex, exs, runF, shP, getV, getP, place, isTys, isTy, outsOf, List.range_succ, fillA, backA, hasBw, cmpD, binD, bltD, bLen, ixv, subD, wipeD, bindT, bindMany, seqD, putD, putI, backD, isLstAt, setP, cStep, fStep, Function.comp_def, bits]
theorem lawc_bits3 (Γ : Fns) {p : Nat} {cs : List (List Nat × List Nat)} {cr S : List Nat} (x5 x6 : D) (c8 : cs.length ≤ 8) : ev Γ [] F._law_is_chain.c3 [cH p cs, LN cr, LN S, .int (cs.length : Nat), .hole, x5, x6, .hole, .hole] = some (ON (bits cs.length S), [cH p cs, LN cr, LN S, .int (cs.length : Nat), .hole, x5, x6, .hole, .hole]) := by
  refine (comp_map (env1 := [cH p cs, LN cr, LN S, .int (cs.length : Nat), .hole, x5, x6, .hole, .hole]) (r := none) (xs := List.range cs.length) (fun i : Nat => D.int (i : Nat)) (fun k => .int ((if k ∈ S then 1 else 0 : Nat) : Nat)) ?_ fun k hk => ?_).trans ?_
  · simp [ev, evs, evA, evAnd, evOr, evI, ex, exs, runF, shP, getV, getP, place, isTys, isTy, outsOf, List.range_succ, fillA, backA, hasBw, cmpD, binD, bltD, bLen, ixv, subD, wipeD, bindT, bindMany, seqD, putD, putI, backD, isLstAt, setP, cStep, fStep, Function.comp_def, rngs_zero cs.length (by omega)]
  · have := any_cast k S
    by_cases h : k ∈ S
    · simp only [h, decide_true] at this
      simp [ev, evs, evA, evAnd, evOr, evI, ex, exs, runF, shP, getV, getP, place, isTys, isTy, outsOf, List.range_succ, fillA, backA, hasBw, cmpD, binD, bltD, bLen, ixv, subD, wipeD, bindT, bindMany, seqD, putD, putI, backD, isLstAt, setP, cStep, fStep, Function.comp_def, this, h, bInt]
    · simp only [h, decide_false] at this
      simp [ev, evs, evA, evAnd, evOr, evI, ex, exs, runF, shP, getV, getP, place, isTys, isTy, outsOf, List.range_succ, fillA, backA, hasBw, cmpD, binD, bltD, bLen, ixv, subD, wipeD, bindT, bindMany, seqD, putD, putI, backD, isLstAt, setP, cStep, fStep, Function.comp_def, this, h, bInt]
  · simp [ev, evs, evA, evAnd, evOr, evI, ex, exs, runF, shP, getV, getP, place, isTys, isTy, outsOf, List.range_succ, fillA, backA, hasBw, cmpD, binD, bltD, bLen, ixv, subD, wipeD, bindT, bindMany, seqD, putD, putI, backD, isLstAt, setP, cStep, fStep, Function.comp_def, bits]
theorem lawc_fresh (Γ : Fns) {p : Nat} {cs : List (List Nat × List Nat)} {cr S : List Nat} (x5 x6 : D) (ok : okH p cs) : ev Γ [] F._law_is_chain.c4 [cH p cs, LN cr, LN S, .int (cs.length : Nat), .hole, x5, x6, .hole, ON (fH p cs cr (bits cs.length S))] = some (ON (fresh p cs cr S), [cH p cs, LN cr, LN S, .int (cs.length : Nat), .hole, x5, x6, .hole, ON (fH p cs cr (bits cs.length S))]) := by
  have c8 := ok.c8
  have hb := (fH_ris ok cr).bits _ (bits_ok cs.length S)
  have hf : ((List.range cs.length).filterMap fun k => if ((fH p cs cr (bits cs.length S))[k]?).getD 0 = 1 ∧ k ∉ S then some (D.int (k : Nat)) else none) = (fresh p cs cr S).map fun x : Nat => D.int (x : Nat) := by
    rw [filterMap_if, fresh_eq ok]
  simp only [ON]
  rw [← hf]
  generalize fH p cs cr (bits cs.length S) = b at *
  refine (comp_filt (env1 := [cH p cs, LN cr, LN S, .int (cs.length : Nat), .hole, x5, x6, .hole, ON b]) (r := none) (xs := List.range cs.length) (fun i : Nat => D.int (i : Nat)) (fun k => if (b[k]?).getD 0 = 1 ∧ k ∉ S then some (D.int (k : Nat)) else none) ?_ fun k hk => ?_).trans ?_
  · simp [ev, evs, evA, evAnd, evOr, evI, ex, exs, runF, shP, getV, getP, place, isTys, isTy, outsOf, List.range_succ, fillA, backA, hasBw, cmpD, binD, bltD, bLen, ixv, subD, wipeD, bindT, bindMany, seqD, putD, putI, backD, isLstAt, setP, cStep, fStep, Function.comp_def, rngs_zero cs.length (by omega)]
  · rw [List.mem_range] at hk
    have kb : k < b.length := by rw [hb.1]; exact hk
    have g1 : b[k]? = some b[k] := List.getElem?_eq_getElem kb
    have := any_cast k S
    by_cases h1 : b[k] = 1
    · by_cases h : k ∈ S
      · simp only [h, decide_true] at this
        simp [ev, evs, evA, evAnd, evOr, evI, ex, exs, runF, shP, getV, getP, place, isTys, isTy, outsOf, List.range_succ, fillA, backA, hasBw, cmpD, binD, bltD, bLen, ixv, subD, wipeD, bindT, bindMany, seqD, putD, putI, backD, isLstAt, setP, cStep, fStep, Function.comp_def, g1, this, h, h1]
      · simp only [h, decide_false] at this
        simp [ev, evs, evA, evAnd, evOr, evI, ex, exs, runF, shP, getV, getP, place, isTys, isTy, outsOf, List.range_succ, fillA, backA, hasBw, cmpD, binD, bltD, bLen, ixv, subD, wipeD, bindT, bindMany, seqD, putD, putI, backD, isLstAt, setP, cStep, fStep, Function.comp_def, g1, this, h, h1]
    · have hn : ((b[k] : Int) == 1) = false := by rw [beq_eq_false_iff_ne]; omega
      simp [ev, evs, evA, evAnd, evOr, evI, ex, exs, runF, shP, getV, getP, place, isTys, isTy, outsOf, List.range_succ, fillA, backA, hasBw, cmpD, binD, bltD, bLen, ixv, subD, wipeD, bindT, bindMany, seqD, putD, putI, backD, isLstAt, setP, cStep, fStep, Function.comp_def, g1, h1, hn]
  · simp [ev, evs, evA, evAnd, evOr, evI, ex, exs, runF, shP, getV, getP, place, isTys, isTy, outsOf, List.range_succ, fillA, backA, hasBw, cmpD, binD, bltD, bLen, ixv, subD, wipeD, bindT, bindMany, seqD, putD, putI, backD, isLstAt, setP, cStep, fStep, Function.comp_def]
theorem lawc_c1 (Γ : Fns) {p : Nat} {cs : List (List Nat × List Nat)} {cr : List Nat} {xs : List D} (h : ∀ d ∈ xs, isAtom d = true) (hx : share (.lst false xs) = .lst false xs) : ev Γ [] F._law_is_chain.c1 [cH p cs, LN cr, .lst false xs, .int (cs.length : Nat), .hole, .hole, .hole, .hole, .hole] = some (.lst true (xs.filter fun d => !validB cs.length d), [cH p cs, LN cr, .lst false xs, .int (cs.length : Nat), .hole, .hole, .hole, .hole, .hole]) := by
  have hf : (xs.filterMap fun d => if (!validB cs.length d) = true then some (id d) else none) = xs.filter fun d => !validB cs.length d := by rw [filterMap_if]; simp [ev, evs, evA, evAnd, evOr, evI, ex, exs, runF, shP, getV, getP, place, isTys, isTy, outsOf, List.range_succ, fillA, backA, hasBw, cmpD, binD, bltD, bLen, ixv, subD, wipeD, bindT, bindMany, seqD, putD, putI, backD, isLstAt, setP, cStep, fStep, Function.comp_def]
  rw [← hf]
  refine (comp_filt (env1 := [cH p cs, LN cr, .lst false xs, .int (cs.length : Nat), .hole, .hole, .hole, .hole, .hole]) (r := none) (xs := xs) id (fun d => if (!validB cs.length d) = true then some (id d) else none) ?_ fun d hd => ?_).trans ?_
  · simp [ev, evs, evA, evAnd, evOr, evI, ex, exs, runF, shP, getV, getP, place, isTys, isTy, outsOf, List.range_succ, fillA, backA, hasBw, cmpD, binD, bltD, bLen, ixv, subD, wipeD, bindT, bindMany, seqD, putD, putI, backD, isLstAt, setP, cStep, fStep, Function.comp_def, hx]
  · have ha := h d hd
    have hs := atom_share ha
    cases d <;> simp only [isAtom, Bool.false_eq_true] at ha
    · simp [ev, evs, evA, evAnd, evOr, evI, ex, exs, runF, shP, getV, getP, place, isTys, isTy, outsOf, List.range_succ, fillA, backA, hasBw, cmpD, binD, bltD, bLen, ixv, subD, wipeD, bindT, bindMany, seqD, putD, putI, backD, isLstAt, setP, cStep, fStep, Function.comp_def, validB]
    · simp [ev, evs, evA, evAnd, evOr, evI, ex, exs, runF, shP, getV, getP, place, isTys, isTy, outsOf, List.range_succ, fillA, backA, hasBw, cmpD, binD, bltD, bLen, ixv, subD, wipeD, bindT, bindMany, seqD, putD, putI, backD, isLstAt, setP, cStep, fStep, Function.comp_def, validB]
    rotate_left
    · simp [ev, evs, evA, evAnd, evOr, evI, ex, exs, runF, shP, getV, getP, place, isTys, isTy, outsOf, List.range_succ, fillA, backA, hasBw, cmpD, binD, bltD, bLen, ixv, subD, wipeD, bindT, bindMany, seqD, putD, putI, backD, isLstAt, setP, cStep, fStep, Function.comp_def, hs, validB]
    rename_i i
    by_cases h1 : 0 ≤ i
    · by_cases h2 : i < (cs.length : Int)
      · simp [ev, evs, evA, evAnd, evOr, evI, ex, exs, runF, shP, getV, getP, place, isTys, isTy, outsOf, List.range_succ, fillA, backA, hasBw, cmpD, binD, bltD, bLen, ixv, subD, wipeD, bindT, bindMany, seqD, putD, putI, backD, isLstAt, setP, cStep, fStep, Function.comp_def, validB, h1, h2]
      · simp [ev, evs, evA, evAnd, evOr, evI, ex, exs, runF, shP, getV, getP, place, isTys, isTy, outsOf, List.range_succ, fillA, backA, hasBw, cmpD, binD, bltD, bLen, ixv, subD, wipeD, bindT, bindMany, seqD, putD, putI, backD, isLstAt, setP, cStep, fStep, Function.comp_def, validB, h1, h2]
    · simp [ev, evs, evA, evAnd, evOr, evI, ex, exs, runF, shP, getV, getP, place, isTys, isTy, outsOf, List.range_succ, fillA, backA, hasBw, cmpD, binD, bltD, bLen, ixv, subD, wipeD, bindT, bindMany, seqD, putD, putI, backD, isLstAt, setP, cStep, fStep, Function.comp_def, validB, h1]
  · simp [ev, evs, evA, evAnd, evOr, evI, ex, exs, runF, shP, getV, getP, place, isTys, isTy, outsOf, List.range_succ, fillA, backA, hasBw, cmpD, binD, bltD, bLen, ixv, subD, wipeD, bindT, bindMany, seqD, putD, putI, backD, isLstAt, setP, cStep, fStep, Function.comp_def]
theorem lawchain_good (n : Nat) {u v w : D} {p : Nat} {cs : List (List Nat × List Nat)} {cr S : List Nat} (hu : share u = cH p cs) (hv : share v = LN cr) (hw : share w = LN S) (ok : okH p cs) (hS : ∀ x ∈ S, x < cs.length) (hl : S.length ≤ 1000) :
    evF prog (n + 7) 43 [u, v, w] = some (.bl (chB p cs cr S), [.hole, .hole, .hole]) := by
  have c8 := ok.c8
  have c1 := lawc_c1 (evF prog (n + 6)) (p := p) (cs := cs) (cr := cr) (xs := S.map fun x : Nat => .int (x : Nat)) (fun d hd => by obtain ⟨x, -, rfl⟩ := List.mem_map.mp hd; rfl) (share_LN _ _)
  rw [nats_valid hS] at c1
  have ha : ∀ (o : Bool) (T : List Nat), evF prog (n + 6) 38 [cH p cs, LN cr, .lst o ((bits cs.length T).map fun x : Nat => .int (x : Nat))] = some (ON (fH p cs cr (bits cs.length T)), [.hole, .hole, .hole]) := fun o T => lawans_ok (n + 4) (share_cH p cs) (share_LN _ _) (share_LN _ _) ok (bits_ok _ _)
  have tk : ∀ i, (S.map fun x : Nat => D.int (x : Nat)).take i = (S.take i).map fun x : Nat => D.int (x : Nat) := fun i => (List.map_take ..).symm
  have hit : evI (evF prog (n + 6)) [] (.rng1 (.len 2 [])) [cH p cs, LN cr, LN S, .int (cs.length : Nat), .hole, .hole, .hole, .hole, .hole] = some ((List.range S.length).map (fun i : Nat => D.int (i : Nat)), [cH p cs, LN cr, LN S, .int (cs.length : Nat), .hole, .hole, .hole, .hole, .hole], none) := by
    simp [ev, evs, evA, evAnd, evOr, evI, ex, exs, runF, shP, getV, getP, place, isTys, isTy, outsOf, List.range_succ, fillA, backA, hasBw, cmpD, binD, bltD, bLen, ixv, subD, wipeD, bindT, bindMany, seqD, putD, putI, backD, isLstAt, setP, cStep, fStep, Function.comp_def, rngs_zero S.length (by omega)]
  have key := loopF_find2 (step := fStep (evF prog (n + 6)) [] none (.nm 5) F._law_is_chain.b1) (fun i : Nat => D.int (i : Nat)) (fun env => ∃ a b, env = [cH p cs, LN cr, LN S, .int (cs.length : Nat), .hole, a, b, .hole, .hole]) (fun i => !goodAt p cs cr S i) (fun _ => .bl false) (List.range S.length) [cH p cs, LN cr, LN S, .int (cs.length : Nat), .hole, .hole, .hole, .hole, .hole] ⟨_, _, rfl⟩ (by
    rintro env i hi ⟨a, b, rfl⟩
    rw [List.mem_range] at hi
    have hcn := cut_nat (S.map fun x : Nat => D.int (x : Nat)) i
    rw [tk] at hcn
    have h2 := lawc_bits (evF prog (n + 6)) (p := p) (cs := cs) (cr := cr) (S := S) b i c8
    have ha' := ha false (S.take i)
    have g1 : S[i]? = some S[i] := List.getElem?_eq_getElem hi
    have hx := hS _ (List.getElem_mem hi)
    have hb := (fH_ris ok cr).bits _ (bits_ok cs.length (S.take i))
    have kz : S[i] < (fH p cs cr (bits cs.length (S.take i))).length := by rw [hb.1]; exact hx
    have g2 : (fH p cs cr (bits cs.length (S.take i)))[S[i]]? = some (fH p cs cr (bits cs.length (S.take i)))[S[i]] := List.getElem?_eq_getElem kz
    have m1 := any_cast S[i] (S.take i)
    have hcar : S[i] ∈ carry p cs cr (S.take i) ↔ (fH p cs cr (bits cs.length (S.take i)))[S[i]] = 1 := by
      rw [carry_mem ok, g2]; simp [ev, evs, evA, evAnd, evOr, evI, ex, exs, runF, shP, getV, getP, place, isTys, isTy, outsOf, List.range_succ, fillA, backA, hasBw, cmpD, binD, bltD, bLen, ixv, subD, wipeD, bindT, bindMany, seqD, putD, putI, backD, isLstAt, setP, cStep, fStep, Function.comp_def, hx]
    simp only [goodAt, g1, Option.getD_some]
    have s1 : ex (evF prog (n + 6)) [] (.asg 6 F._law_is_chain.c2) [cH p cs, LN cr, LN S, .int (cs.length : Nat), .hole, .int (i : Nat), b, .hole, .hole] = some (.nx [cH p cs, LN cr, LN S, .int (cs.length : Nat), .hole, .int (i : Nat), ON (bits cs.length (S.take i)), .hole, .hole]) := by
      simp only [ex, h2, List.not_mem_nil, if_false, Option.map_some, List.set]
    have e0 : fStep (evF prog (n + 6)) [] none (.nm 5) F._law_is_chain.b1 [cH p cs, LN cr, LN S, .int (cs.length : Nat), .hole, a, b, .hole, .hole] (.int (i : Nat)) = exs (evF prog (n + 6)) [] F._law_is_chain.b1 [cH p cs, LN cr, LN S, .int (cs.length : Nat), .hole, .int (i : Nat), b, .hole, .hole] := by rfl
    rw [e0, F._law_is_chain.b1, exs_nx s1]
    generalize fH p cs cr (bits cs.length (S.take i)) = z at *
    simp only [ON] at ha'
    by_cases q1 : S[i] ∈ S.take i
    · simp only [q1, decide_true] at m1
      refine ⟨fun _ => ⟨_, by simp [ev, evs, evA, evAnd, evOr, evI, ex, exs, runF, shP, getV, getP, place, isTys, isTy, outsOf, List.range_succ, fillA, backA, hasBw, cmpD, binD, bltD, bLen, ixv, subD, wipeD, bindT, bindMany, seqD, putD, putI, backD, isLstAt, setP, cStep, fStep, Function.comp_def, -List.map_take, slcD, hcn, g1, m1]; rfl⟩, fun hp => by simp [ev, evs, evA, evAnd, evOr, evI, ex, exs, runF, shP, getV, getP, place, isTys, isTy, outsOf, List.range_succ, fillA, backA, hasBw, cmpD, binD, bltD, bLen, ixv, subD, wipeD, bindT, bindMany, seqD, putD, putI, backD, isLstAt, setP, cStep, fStep, Function.comp_def, q1] at hp⟩
    · simp only [q1, decide_false] at m1
      by_cases q2 : S[i] ∈ carry p cs cr (S.take i)
      · have hz := hcar.mp q2
        refine ⟨fun hp => by simp [ev, evs, evA, evAnd, evOr, evI, ex, exs, runF, shP, getV, getP, place, isTys, isTy, outsOf, List.range_succ, fillA, backA, hasBw, cmpD, binD, bltD, bLen, ixv, subD, wipeD, bindT, bindMany, seqD, putD, putI, backD, isLstAt, setP, cStep, fStep, Function.comp_def, q1, q2] at hp, fun _ => ⟨[cH p cs, LN cr, LN S, .int (cs.length : Nat), .hole, .int (i : Nat), LN (bits cs.length (S.take i)), .hole, .hole], by simp [ev, evs, evA, evAnd, evOr, evI, ex, exs, runF, shP, getV, getP, place, isTys, isTy, outsOf, List.range_succ, fillA, backA, hasBw, cmpD, binD, bltD, bLen, ixv, subD, wipeD, bindT, bindMany, seqD, putD, putI, backD, isLstAt, setP, cStep, fStep, Function.comp_def, -List.map_take, slcD, hcn, g1, m1, ha', g2, hz], _, _, rfl⟩⟩
      · have hz : ((z[S[i]] : Int) == 1) = false := by
          rw [beq_eq_false_iff_ne]
          intro e
          exact q2 (hcar.mpr (by omega))
        refine ⟨fun _ => ⟨_, by simp [ev, evs, evA, evAnd, evOr, evI, ex, exs, runF, shP, getV, getP, place, isTys, isTy, outsOf, List.range_succ, fillA, backA, hasBw, cmpD, binD, bltD, bLen, ixv, subD, wipeD, bindT, bindMany, seqD, putD, putI, backD, isLstAt, setP, cStep, fStep, Function.comp_def, -List.map_take, slcD, hcn, g1, m1, ha', g2, hz]; rfl⟩, fun hp => by simp [ev, evs, evA, evAnd, evOr, evI, ex, exs, runF, shP, getV, getP, place, isTys, isTy, outsOf, List.range_succ, fillA, backA, hasBw, cmpD, binD, bltD, bLen, ixv, subD, wipeD, bindT, bindMany, seqD, putD, putI, backD, isLstAt, setP, cStep, fStep, Function.comp_def, q1, q2] at hp⟩)
  obtain ⟨k1, k2⟩ := key
  show runF (evF prog (n + 6)) F._law_is_chain [_, _, _] = _
  cases hf : (List.range S.length).find? fun i => !goodAt p cs cr S i with
  | some q =>
    obtain ⟨env', e⟩ := k1 q hf
    have e' : ex (evF prog (n + 6)) [] F._law_is_chain.l1 [cH p cs, LN cr, LN S, .int (cs.length : Nat), .hole, .hole, .hole, .hole, .hole] = _ := ex_for2 hit e
    have hb : chB p cs cr S = false := by
      have h3 := List.find?_some hf
      have h4 := List.mem_of_find?_eq_some hf
      rw [chB, Bool.and_eq_false_iff]
      refine .inl ?_
      rw [List.all_eq_false]
      exact ⟨q, h4, by simpa [ev, evs, evA, evAnd, evOr, evI, ex, exs, runF, shP, getV, getP, place, isTys, isTy, outsOf, List.range_succ, fillA, backA, hasBw, cmpD, binD, bltD, bLen, ixv, subD, wipeD, bindT, bindMany, seqD, putD, putI, backD, isLstAt, setP, cStep, fStep, Function.comp_def] using h3⟩
    rw [hb]
    simp [ev, evs, evA, evAnd, evOr, evI, ex, exs, runF, shP, getV, getP, place, isTys, isTy, outsOf, List.range_succ, fillA, backA, hasBw, cmpD, binD, bltD, bLen, ixv, subD, wipeD, bindT, bindMany, seqD, putD, putI, backD, isLstAt, setP, cStep, fStep, Function.comp_def, F._law_is_chain, hu, hv, hw, c1, e', mapF]
  | none =>
    obtain ⟨env', e, a, b, rfl⟩ := k2 hf
    have e' : ex (evF prog (n + 6)) [] F._law_is_chain.l1 [cH p cs, LN cr, LN S, .int (cs.length : Nat), .hole, .hole, .hole, .hole, .hole] = _ := ex_for2 hit e
    have hb : chB p cs cr S = (fresh p cs cr S).isEmpty := by
      have : ((List.range S.length).all fun i => goodAt p cs cr S i) = true := by
        rw [List.all_eq_true]
        intro i hi
        have := List.find?_eq_none.mp hf i hi
        simpa [ev, evs, evA, evAnd, evOr, evI, ex, exs, runF, shP, getV, getP, place, isTys, isTy, outsOf, List.range_succ, fillA, backA, hasBw, cmpD, binD, bltD, bLen, ixv, subD, wipeD, bindT, bindMany, seqD, putD, putI, backD, isLstAt, setP, cStep, fStep, Function.comp_def] using this
      rw [chB, this, fresh_empty]; rfl
    have c3 := lawc_bits3 (evF prog (n + 6)) (p := p) (cs := cs) (cr := cr) (S := S) a b c8
    have c4 := lawc_fresh (evF prog (n + 6)) (p := p) (cs := cs) (cr := cr) (S := S) a b ok
    have ha' := ha true S
    have he := eqD_nats true true (fresh p cs cr S) []
    have e0 : (fresh p cs cr S == []) = (fresh p cs cr S).isEmpty := by cases fresh p cs cr S <;> rfl
    rw [e0] at he
    simp only [List.map_nil] at he
    simp only [ON] at c3 c4 ha'
    rw [hb]
    simp [ev, evs, evA, evAnd, evOr, evI, ex, exs, runF, shP, getV, getP, place, isTys, isTy, outsOf, List.range_succ, fillA, backA, hasBw, cmpD, binD, bltD, bLen, ixv, subD, wipeD, bindT, bindMany, seqD, putD, putI, backD, isLstAt, setP, cStep, fStep, Function.comp_def, F._law_is_chain, hu, hv, hw, c1, e', c3, c4, ha', he, mapF]
end K81

namespace K81
open OE PySem PySem.Spec PyProof.Rows L2

section
variable {u v w : D} {p : Nat} {cs : List (List Nat × List Nat)} {cr : List Nat}
theorem notlist (n : Nat) (hu : share u = cH p cs) (hv : share v = LN cr) (ok : okH p cs) (oc : okCr p cr) (hw : share w = .non ∨ (∃ i, share w = .int i) ∨ ∃ l, share w = .tup l) :
    evF prog (n + 7) 24 [u, v, w] = some (.bl false, [.hole, .hole, .hole]) ∧ evF prog (n + 7) 43 [u, v, w] = some (.bl false, [.hole, .hole, .hole]) := by
  have p6 := ok.p6
  have cl := oc.len
  have h1 := check_h n (v := cH p cs) (share_cH p cs) ok
  have h2 := check_p (n + 2) (v := cH p cs) (w := LN cr) (p := p) (cs := cs) (share_cH p cs) (share_LN _ _) oc.asc oc.bd (by omega)
  have hs := share_share w
  constructor
  · show runF (evF prog (n + 6)) F.is_chain [_, _, _] = _
    rcases hw with hw | ⟨i, hw⟩ | ⟨l, hw⟩ <;> rw [hw] at hs <;> simp [ev, evs, evA, evAnd, evOr, evI, ex, exs, runF, shP, getV, getP, place, isTys, isTy, outsOf, List.range_succ, fillA, backA, hasBw, cmpD, binD, bltD, bLen, ixv, subD, wipeD, bindT, bindMany, seqD, putD, putI, backD, isLstAt, setP, cStep, fStep, Function.comp_def, F.is_chain, hu, hv, hw, hs, h1, h2]
  · show runF (evF prog (n + 6)) F._law_is_chain [_, _, _] = _
    rcases hw with hw | ⟨i, hw⟩ | ⟨l, hw⟩ <;> rw [hw] at hs <;> simp [ev, evs, evA, evAnd, evOr, evI, ex, exs, runF, shP, getV, getP, place, isTys, isTy, outsOf, List.range_succ, fillA, backA, hasBw, cmpD, binD, bltD, bLen, ixv, subD, wipeD, bindT, bindMany, seqD, putD, putI, backD, isLstAt, setP, cStep, fStep, Function.comp_def, F._law_is_chain, hu, hv, hw, hs]
theorem badlist (n : Nat) (hu : share u = cH p cs) (hv : share v = LN cr) (ok : okH p cs) (oc : okCr p cr) {xs : List D} (hw : share w = .lst false xs) (ha : ∀ d ∈ xs, isAtom d = true) (hb : ∃ d ∈ xs, validB cs.length d = false) :
    evF prog (n + 7) 24 [u, v, w] = some (.bl false, [.hole, .hole, .hole]) ∧ evF prog (n + 7) 43 [u, v, w] = some (.bl false, [.hole, .hole, .hole]) := by
  have p6 := ok.p6
  have cl := oc.len
  have h1 := check_h n (v := cH p cs) (share_cH p cs) ok
  have h2 := check_p (n + 2) (v := cH p cs) (w := LN cr) (p := p) (cs := cs) (share_cH p cs) (share_LN _ _) oc.asc oc.bd (by omega)
  have hs := share_share w
  rw [hw] at hs
  have c1 := isch_c1 (n + 4) (p := p) (cs := cs) (cr := cr) ha hs
  have c2 := lawc_c1 (evF prog (n + 6)) (p := p) (cs := cs) (cr := cr) ha hs
  have he := eq_nil_gen true true (xs.filter fun d => !validB cs.length d) (atoms_plain fun d hd => ha d ((List.mem_filter.mp hd).1))
  have hem : (xs.filter fun d => !validB cs.length d).isEmpty = false := by
    obtain ⟨d, hd, hv⟩ := hb
    rw [Bool.eq_false_iff]
    intro z
    rw [List.isEmpty_iff, List.filter_eq_nil_iff] at z
    exact z d hd (by simp [ev, evs, evA, evAnd, evOr, evI, ex, exs, runF, shP, getV, getP, place, isTys, isTy, outsOf, List.range_succ, fillA, backA, hasBw, cmpD, binD, bltD, bLen, ixv, subD, wipeD, bindT, bindMany, seqD, putD, putI, backD, isLstAt, setP, cStep, fStep, Function.comp_def, hv])
  rw [hem] at he
  generalize (xs.filter fun d => !validB cs.length d) = l at *
  constructor
  · show runF (evF prog (n + 6)) F.is_chain [_, _, _] = _
    simp [ev, evs, evA, evAnd, evOr, evI, ex, exs, runF, shP, getV, getP, place, isTys, isTy, outsOf, List.range_succ, fillA, backA, hasBw, cmpD, binD, bltD, bLen, ixv, subD, wipeD, bindT, bindMany, seqD, putD, putI, backD, isLstAt, setP, cStep, fStep, Function.comp_def, F.is_chain, hu, hv, hw, hs, h1, h2, c1, he]
  · show runF (evF prog (n + 6)) F._law_is_chain [_, _, _] = _
    simp [ev, evs, evA, evAnd, evOr, evI, ex, exs, runF, shP, getV, getP, place, isTys, isTy, outsOf, List.range_succ, fillA, backA, hasBw, cmpD, binD, bltD, bLen, ixv, subD, wipeD, bindT, bindMany, seqD, putD, putI, backD, isLstAt, setP, cStep, fStep, Function.comp_def, F._law_is_chain, hu, hv, hw, hs, c2, he]
/-- a value of the kinds that the law hands to the judge -/
def okV (w : D) : Prop := (share w = .non ∨ (∃ i, share w = .int i) ∨ ∃ l, share w = .tup l) ∨ ∃ xs, share w = .lst false xs ∧ (∀ d ∈ xs, isAtom d = true) ∧ xs.length ≤ 1000
theorem judged (n : Nat) (hu : share u = cH p cs) (hv : share v = LN cr) (ok : okH p cs) (oc : okCr p cr) (hw : okV w) :
    ∃ b, evF prog (n + 7) 24 [u, v, w] = some (.bl b, [.hole, .hole, .hole]) ∧ evF prog (n + 7) 43 [u, v, w] = some (.bl b, [.hole, .hole, .hole]) := by
  rcases hw with hw | ⟨xs, hw, ha, hl⟩
  · exact ⟨false, notlist n hu hv ok oc hw⟩
  · by_cases hv2 : ∀ d ∈ xs, validB cs.length d = true
    · obtain ⟨S, rfl, hS⟩ := valid_nats hv2
      rw [List.length_map] at hl
      exact ⟨_, ischain_good n hu hv hw ok oc hS hl, lawchain_good n hu hv hw ok hS hl⟩
    · have hb : ∃ d ∈ xs, validB cs.length d = false := Classical.byContradiction fun z => hv2 fun d hd => by
        cases h : validB cs.length d with
        | true => rfl
        | false => exact absurd ⟨d, hd, h⟩ z
      exact ⟨false, badlist n hu hv ok oc hw ha hb⟩
/-! the drawn chain -/
theorem dc_c1 (Γ : Fns) {g : D} {S : List Nat} (t x6 x7 : D) (c8 : cs.length ≤ 8) : ev Γ [0] F._law_drawn_chain.c1 [g, cH p cs, LN cr, ON S, .int (cs.length : Nat), t, x6, x7, .hole] = some (ON (bits cs.length S), [g, cH p cs, LN cr, ON S, .int (cs.length : Nat), t, x6, x7, .hole]) := by
  refine (comp_map (env1 := [g, cH p cs, LN cr, ON S, .int (cs.length : Nat), t, x6, x7, .hole]) (r := none) (xs := List.range cs.length) (fun i : Nat => D.int (i : Nat)) (fun k => .int ((if k ∈ S then 1 else 0 : Nat) : Nat)) ?_ fun k hk => ?_).trans ?_
  · simp [ev, evs, evA, evAnd, evOr, evI, ex, exs, runF, shP, getV, getP, place, isTys, isTy, outsOf, List.range_succ, fillA, backA, hasBw, cmpD, binD, bltD, bLen, ixv, subD, wipeD, bindT, bindMany, seqD, putD, putI, backD, isLstAt, setP, cStep, fStep, Function.comp_def, rngs_zero cs.length (by omega)]
  · have := any_cast k S
    by_cases h : k ∈ S
    · simp only [h, decide_true] at this
      simp [ev, evs, evA, evAnd, evOr, evI, ex, exs, runF, shP, getV, getP, place, isTys, isTy, outsOf, List.range_succ, fillA, backA, hasBw, cmpD, binD, bltD, bLen, ixv, subD, wipeD, bindT, bindMany, seqD, putD, putI, backD, isLstAt, setP, cStep, fStep, Function.comp_def, this, h, bInt]
    · simp only [h, decide_false] at this
      simp [ev, evs, evA, evAnd, evOr, evI, ex, exs, runF, shP, getV, getP, place, isTys, isTy, outsOf, List.range_succ, fillA, backA, hasBw, cmpD, binD, bltD, bLen, ixv, subD, wipeD, bindT, bindMany, seqD, putD, putI, backD, isLstAt, setP, cStep, fStep, Function.comp_def, this, h, bInt]
  · simp [ev, evs, evA, evAnd, evOr, evI, ex, exs, runF, shP, getV, getP, place, isTys, isTy, outsOf, List.range_succ, fillA, backA, hasBw, cmpD, binD, bltD, bLen, ixv, subD, wipeD, bindT, bindMany, seqD, putD, putI, backD, isLstAt, setP, cStep, fStep, Function.comp_def, bits]
theorem dc_c2 (Γ : Fns) {g : D} {S : List Nat} (t x7 : D) (ok : okH p cs) : ev Γ [0] F._law_drawn_chain.c2 [g, cH p cs, LN cr, ON S, .int (cs.length : Nat), t, ON (fH p cs cr (bits cs.length S)), x7, .hole] = some (ON (fresh p cs cr S), [g, cH p cs, LN cr, ON S, .int (cs.length : Nat), t, ON (fH p cs cr (bits cs.length S)), x7, .hole]) := by
  have c8 := ok.c8
  have hb := (fH_ris ok cr).bits _ (bits_ok cs.length S)
  have hf : ((List.range cs.length).filterMap fun k => if ((fH p cs cr (bits cs.length S))[k]?).getD 0 = 1 ∧ k ∉ S then some (D.int (k : Nat)) else none) = (fresh p cs cr S).map fun x : Nat => D.int (x : Nat) := by
    rw [filterMap_if, fresh_eq ok]
  simp only [ON]
  rw [← hf]
  generalize fH p cs cr (bits cs.length S) = b at *
  refine (comp_filt (env1 := [g, cH p cs, LN cr, ON S, .int (cs.length : Nat), t, ON b, x7, .hole]) (r := none) (xs := List.range cs.length) (fun i : Nat => D.int (i : Nat)) (fun k => if (b[k]?).getD 0 = 1 ∧ k ∉ S then some (D.int (k : Nat)) else none) ?_ fun k hk => ?_).trans ?_
  · simp [ev, evs, evA, evAnd, evOr, evI, ex, exs, runF, shP, getV, getP, place, isTys, isTy, outsOf, List.range_succ, fillA, backA, hasBw, cmpD, binD, bltD, bLen, ixv, subD, wipeD, bindT, bindMany, seqD, putD, putI, backD, isLstAt, setP, cStep, fStep, Function.comp_def, rngs_zero cs.length (by omega)]
  · rw [List.mem_range] at hk
    have kb : k < b.length := by rw [hb.1]; exact hk
    have g1 : b[k]? = some b[k] := List.getElem?_eq_getElem kb
    have := any_cast k S
    by_cases h1 : b[k] = 1
    · by_cases h : k ∈ S
      · simp only [h, decide_true] at this
        simp [ev, evs, evA, evAnd, evOr, evI, ex, exs, runF, shP, getV, getP, place, isTys, isTy, outsOf, List.range_succ, fillA, backA, hasBw, cmpD, binD, bltD, bLen, ixv, subD, wipeD, bindT, bindMany, seqD, putD, putI, backD, isLstAt, setP, cStep, fStep, Function.comp_def, g1, this, h, h1]
      · simp only [h, decide_false] at this
        simp [ev, evs, evA, evAnd, evOr, evI, ex, exs, runF, shP, getV, getP, place, isTys, isTy, outsOf, List.range_succ, fillA, backA, hasBw, cmpD, binD, bltD, bLen, ixv, subD, wipeD, bindT, bindMany, seqD, putD, putI, backD, isLstAt, setP, cStep, fStep, Function.comp_def, g1, this, h, h1]
    · have hn : ((b[k] : Int) == 1) = false := by rw [beq_eq_false_iff_ne]; omega
      simp [ev, evs, evA, evAnd, evOr, evI, ex, exs, runF, shP, getV, getP, place, isTys, isTy, outsOf, List.range_succ, fillA, backA, hasBw, cmpD, binD, bltD, bLen, ixv, subD, wipeD, bindT, bindMany, seqD, putD, putI, backD, isLstAt, setP, cStep, fStep, Function.comp_def, g1, h1, hn]
  · simp [ev, evs, evA, evAnd, evOr, evI, ex, exs, runF, shP, getV, getP, place, isTys, isTy, outsOf, List.range_succ, fillA, backA, hasBw, cmpD, binD, bltD, bLen, ixv, subD, wipeD, bindT, bindMany, seqD, putD, putI, backD, isLstAt, setP, cStep, fStep, Function.comp_def]
theorem dc_emp (Γ : Fns) (a b c d e f g : D) (l : List Nat) : ev Γ [0] (.emp 7 [] false) [a, b, c, d, e, f, g, ON l, .hole] = some (.bl l.isEmpty, [a, b, c, d, e, f, g, ON l, .hole]) := by
  have h := eqD_nats true true l []
  have e : (l == []) = l.isEmpty := by cases l <;> rfl
  rw [e] at h
  simp only [List.map_nil] at h
  simp [ev, evs, evA, evAnd, evOr, evI, ex, exs, runF, shP, getV, getP, place, isTys, isTy, outsOf, List.range_succ, fillA, backA, hasBw, cmpD, binD, bltD, bLen, ixv, subD, wipeD, bindT, bindMany, seqD, putD, putI, backD, isLstAt, setP, cStep, fStep, Function.comp_def, h]
theorem dc_loop (n : Nat) (ok : okH p cs) : ∀ (l : List Nat) (N : Nat) (g : D) (S : List Nat) (x5 x6 x7 : D), okPre p cs cr S → S.length + l.length = cs.length → Gen N g → N + 100 * l.length ≤ 900000000 →
    ∃ g' S' y5 y6 y7, loopF (fStep (evF prog (n + 6)) [0] none (.nm 5) F._law_drawn_chain.b1) (l.map fun i : Nat => D.int (i : Nat)) [g, cH p cs, LN cr, ON S, .int (cs.length : Nat), x5, x6, x7, .hole] = some (.nx [g', cH p cs, LN cr, ON S', .int (cs.length : Nat), y5, y6, y7, .hole]) ∧ okPre p cs cr S' ∧ (∀ k ∈ carry p cs cr S', k ∈ S') ∧ Gen (N + 100 * l.length) g' := by
  have c8 := ok.c8
  intro l
  induction l with
  | nil =>
    intro N g S x5 x6 x7 hp hl hg hN
    refine ⟨g, S, x5, x6, x7, rfl, hp, fun k hk => ?_, hg⟩
    refine Classical.byContradiction fun hn => ?_
    have := pre_len ok (hp.snoc hn hk)
    rw [List.length_append, List.length_singleton] at this
    simp [ev, evs, evA, evAnd, evOr, evI, ex, exs, runF, shP, getV, getP, place, isTys, isTy, outsOf, List.range_succ, fillA, backA, hasBw, cmpD, binD, bltD, bLen, ixv, subD, wipeD, bindT, bindMany, seqD, putD, putI, backD, isLstAt, setP, cStep, fStep, Function.comp_def] at hl; omega
  | cons t l ih =>
    intro N g S x5 x6 x7 hp hl hg hN
    rw [List.length_cons] at hl hN
    have ha := lawans_ok (n + 4) (u := cH p cs) (v := LN cr) (w := ON (bits cs.length S)) (cr := cr) (share_cH p cs) (share_LN _ _) (share_LN _ _) ok (bits_ok _ _)
    have c1 := dc_c1 (evF prog (n + 6)) (p := p) (cr := cr) (g := g) (S := S) (.int (t : Nat)) x6 x7 c8
    have c2 := dc_c2 (evF prog (n + 6)) (p := p) (cr := cr) (g := g) (S := S) (.int (t : Nat)) x7 ok
    obtain ⟨ga, gb, gc, rfl, _⟩ := id hg
    have e0 : fStep (evF prog (n + 6)) [0] none (.nm 5) F._law_drawn_chain.b1 [G ga gb gc, cH p cs, LN cr, ON S, .int (cs.length : Nat), x5, x6, x7, .hole] (.int (t : Nat)) = exs (evF prog (n + 6)) [0] F._law_drawn_chain.b1 [G ga gb gc, cH p cs, LN cr, ON S, .int (cs.length : Nat), .int (t : Nat), x6, x7, .hole] := by rfl
    have s1 : ex (evF prog (n + 6)) [0] (.asg 6 (.call 38 (.ex (.sh 1) (.ex (.sh 2) (.ex F._law_drawn_chain.c1 .nil))))) [G ga gb gc, cH p cs, LN cr, ON S, .int (cs.length : Nat), .int (t : Nat), x6, x7, .hole] = some (.nx [G ga gb gc, cH p cs, LN cr, ON S, .int (cs.length : Nat), .int (t : Nat), ON (fH p cs cr (bits cs.length S)), x7, .hole]) := by
      simp only [ON] at c1 ha ⊢
      simp [ev, evs, evA, evAnd, evOr, evI, ex, exs, runF, shP, getV, getP, place, isTys, isTy, outsOf, List.range_succ, fillA, backA, hasBw, cmpD, binD, bltD, bLen, ixv, subD, wipeD, bindT, bindMany, seqD, putD, putI, backD, isLstAt, setP, cStep, fStep, Function.comp_def, c1, ha]
    have s2 : ex (evF prog (n + 6)) [0] (.asg 7 F._law_drawn_chain.c2) [G ga gb gc, cH p cs, LN cr, ON S, .int (cs.length : Nat), .int (t : Nat), ON (fH p cs cr (bits cs.length S)), x7, .hole] = some (.nx [G ga gb gc, cH p cs, LN cr, ON S, .int (cs.length : Nat), .int (t : Nat), ON (fH p cs cr (bits cs.length S)), ON (fresh p cs cr S), .hole]) := by
      simp only [ex, c2, List.mem_singleton, Nat.reduceEqDiff, if_false, Option.map_some, List.set]
    have s3 := dc_emp (evF prog (n + 6)) (G ga gb gc) (cH p cs) (LN cr) (ON S) (.int (cs.length : Nat)) (.int (t : Nat)) (ON (fH p cs cr (bits cs.length S))) (fresh p cs cr S)
    rw [List.map_cons]
    by_cases hf : fresh p cs cr S = []
    · refine ⟨G ga gb gc, S, .int (t : Nat), ON (fH p cs cr (bits cs.length S)), ON (fresh p cs cr S), ?_, hp, fresh_nil.mp hf, hg.mono (by omega)⟩
      have hb : exs (evF prog (n + 6)) [0] F._law_drawn_chain.b1 [G ga gb gc, cH p cs, LN cr, ON S, .int (cs.length : Nat), .int (t : Nat), x6, x7, .hole] = some (.bk [G ga gb gc, cH p cs, LN cr, ON S, .int (cs.length : Nat), .int (t : Nat), ON (fH p cs cr (bits cs.length S)), ON (fresh p cs cr S), .hole]) := by
        rw [F._law_drawn_chain.b1, exs_nx s1, exs_nx s2]
        rw [show (fresh p cs cr S).isEmpty = true by rw [hf]; rfl] at s3
        simp only [exs, ex, s3, Option.bind_some]
      simp only [loopF, e0, hb]
    · obtain ⟨d, g', hd, hg', e⟩ := pick_gen (n + 3) (t := LN (fresh p cs cr S)) (ds := (fresh p cs cr S).map fun x : Nat => D.int (x : Nat)) hg (by omega) (share_LN _ _) (by simpa [ev, evs, evA, evAnd, evOr, evI, ex, exs, runF, shP, getV, getP, place, isTys, isTy, outsOf, List.range_succ, fillA, backA, hasBw, cmpD, binD, bltD, bLen, ixv, subD, wipeD, bindT, bindMany, seqD, putD, putI, backD, isLstAt, setP, cStep, fStep, Function.comp_def] using hf) (by
        rw [List.length_map, fresh_eq ok]
        have := List.length_filter_le (fun k => decide (((fH p cs cr (bits cs.length S))[k]?).getD 0 = 1 ∧ k ∉ S)) (List.range cs.length)
        rw [List.length_range] at this; omega)
      obtain ⟨x, hx, rfl⟩ := List.mem_map.mp hd
      rw [fresh, List.mem_filter] at hx
      obtain ⟨ga', gb', gc', rfl, _⟩ := id hg'
      have hlen : S.length < lim := lt_lim (by omega)
      have hb : exs (evF prog (n + 6)) [0] F._law_drawn_chain.b1 [G ga gb gc, cH p cs, LN cr, ON S, .int (cs.length : Nat), .int (t : Nat), x6, x7, .hole] = some (.nx [G ga' gb' gc', cH p cs, LN cr, ON (S ++ [x]), .int (cs.length : Nat), .int (t : Nat), ON (fH p cs cr (bits cs.length S)), LN (fresh p cs cr S), .hole]) := by
        rw [F._law_drawn_chain.b1, exs_nx s1, exs_nx s2]
        rw [show (fresh p cs cr S).isEmpty = false by simpa [ev, evs, evA, evAnd, evOr, evI, ex, exs, runF, shP, getV, getP, place, isTys, isTy, outsOf, List.range_succ, fillA, backA, hasBw, cmpD, binD, bltD, bLen, ixv, subD, wipeD, bindT, bindMany, seqD, putD, putI, backD, isLstAt, setP, cStep, fStep, Function.comp_def] using hf] at s3
        rw [exs_nx (env' := [G ga gb gc, cH p cs, LN cr, ON S, .int (cs.length : Nat), .int (t : Nat), ON (fH p cs cr (bits cs.length S)), ON (fresh p cs cr S), .hole]) (by simp only [ex, s3, Option.bind_some, exs])]
        simp [ev, evs, evA, evAnd, evOr, evI, ex, exs, runF, shP, getV, getP, place, isTys, isTy, outsOf, List.range_succ, fillA, backA, hasBw, cmpD, binD, bltD, bLen, ixv, subD, wipeD, bindT, bindMany, seqD, putD, putI, backD, isLstAt, setP, cStep, fStep, Function.comp_def, e, hlen]
      obtain ⟨g2, S', y5, y6, y7, e2, h2, h3, h4⟩ := ih (N + 100) (G ga' gb' gc') (S ++ [x]) (.int (t : Nat)) (ON (fH p cs cr (bits cs.length S))) (LN (fresh p cs cr S)) (hp.snoc (by simpa [ev, evs, evA, evAnd, evOr, evI, ex, exs, runF, shP, getV, getP, place, isTys, isTy, outsOf, List.range_succ, fillA, backA, hasBw, cmpD, binD, bltD, bLen, ixv, subD, wipeD, bindT, bindMany, seqD, putD, putI, backD, isLstAt, setP, cStep, fStep, Function.comp_def] using hx.2) hx.1) (by simp [ev, evs, evA, evAnd, evOr, evI, ex, exs, runF, shP, getV, getP, place, isTys, isTy, outsOf, List.range_succ, fillA, backA, hasBw, cmpD, binD, bltD, bLen, ixv, subD, wipeD, bindT, bindMany, seqD, putD, putI, backD, isLstAt, setP, cStep, fStep, Function.comp_def]; omega) hg' (by omega)
      refine ⟨g2, S', y5, y6, y7, ?_, h2, h3, h4.mono (by simp [ev, evs, evA, evAnd, evOr, evI, ex, exs, runF, shP, getV, getP, place, isTys, isTy, outsOf, List.range_succ, fillA, backA, hasBw, cmpD, binD, bltD, bLen, ixv, subD, wipeD, bindT, bindMany, seqD, putD, putI, backD, isLstAt, setP, cStep, fStep, Function.comp_def]; omega)⟩
      simp only [loopF, e0, hb]
      exact e2
theorem drawn_chain (n : Nat) {N : Nat} {g : D} (hg : Gen N g) (hN : N ≤ 800000000) (hu : share u = cH p cs) (hv : share v = LN cr) (ok : okH p cs) :
    ∃ g' S, okPre p cs cr S ∧ (∀ k ∈ carry p cs cr S, k ∈ S) ∧ Gen (N + 1000) g' ∧ evF prog (n + 7) 44 [g, u, v] = some (ON S, [g', .hole, .hole]) := by
  have c8 := ok.c8
  obtain ⟨ga, gb, gc, rfl, _⟩ := id hg
  obtain ⟨g', S, y5, y6, y7, e, h1, h2, h3⟩ := dc_loop n (cr := cr) ok (List.range cs.length) N (G ga gb gc) [] .hole .hole .hole okPre.nil (by simp [ev, evs, evA, evAnd, evOr, evI, ex, exs, runF, shP, getV, getP, place, isTys, isTy, outsOf, List.range_succ, fillA, backA, hasBw, cmpD, binD, bltD, bLen, ixv, subD, wipeD, bindT, bindMany, seqD, putD, putI, backD, isLstAt, setP, cStep, fStep, Function.comp_def]) hg (by simp [ev, evs, evA, evAnd, evOr, evI, ex, exs, runF, shP, getV, getP, place, isTys, isTy, outsOf, List.range_succ, fillA, backA, hasBw, cmpD, binD, bltD, bLen, ixv, subD, wipeD, bindT, bindMany, seqD, putD, putI, backD, isLstAt, setP, cStep, fStep, Function.comp_def]; omega)
  rw [List.length_range] at h3
  obtain ⟨ga', gb', gc', rfl, _⟩ := id h3
  refine ⟨_, S, h1, h2, h3.mono (by omega), ?_⟩
  have hit : evI (evF prog (n + 6)) [0] (.rng1 (.sh 4)) [G ga gb gc, cH p cs, LN cr, ON [], .int (cs.length : Nat), .hole, .hole, .hole, .hole] = some ((List.range cs.length).map (fun i : Nat => D.int (i : Nat)), [G ga gb gc, cH p cs, LN cr, ON [], .int (cs.length : Nat), .hole, .hole, .hole, .hole], none) := by
    simp [ev, evs, evA, evAnd, evOr, evI, ex, exs, runF, shP, getV, getP, place, isTys, isTy, outsOf, List.range_succ, fillA, backA, hasBw, cmpD, binD, bltD, bLen, ixv, subD, wipeD, bindT, bindMany, seqD, putD, putI, backD, isLstAt, setP, cStep, fStep, Function.comp_def, rngs_zero cs.length (by omega)]
  have e' : ex (evF prog (n + 6)) [0] F._law_drawn_chain.l1 [G ga gb gc, cH p cs, LN cr, ON [], .int (cs.length : Nat), .hole, .hole, .hole, .hole] = _ := ex_for2 hit e
  simp only [ON, List.map_nil] at e'
  show runF (evF prog (n + 6)) F._law_drawn_chain [_, _, _] = _
  simp [ev, evs, evA, evAnd, evOr, evI, ex, exs, runF, shP, getV, getP, place, isTys, isTy, outsOf, List.range_succ, fillA, backA, hasBw, cmpD, binD, bltD, bLen, ixv, subD, wipeD, bindT, bindMany, seqD, putD, putI, backD, isLstAt, setP, cStep, fStep, Function.comp_def, F._law_drawn_chain, hu, hv, le_lim, e', mapF]
end
end K81

namespace K81
open OE PySem PySem.Spec PyProof.Rows L2

theorem okV_lst {o : Bool} {xs : List D} (h : ∀ d ∈ xs, isAtom d = true) (hl : xs.length ≤ 1000) : okV (.lst o xs) := by
  refine .inr ⟨xs, ?_, h, hl⟩
  show D.lst false (share.shareL xs) = _
  rw [shareL_map]
  congr 1
  have : xs.map share = xs.map id := List.map_congr_left fun d hd => atom_share (h d hd)
  rw [this, List.map_id]
theorem okV_app {o : Bool} {xs ys : List D} (h : ∀ d ∈ xs, isAtom d = true) (h2 : ∀ d ∈ ys, isAtom d = true) (hl : xs.length + ys.length ≤ 1000) : okV (.lst o (xs ++ ys)) := okV_lst (fun d hd => by
  rcases List.mem_append.mp hd with hd | hd
  · exact h d hd
  · exact h2 d hd) (by rw [List.length_append]; exact hl)
theorem cut_mem {xs : List D} {lo hi : Option Int} {d : D} (h : d ∈ OE.cutD xs lo hi) : d ∈ xs := List.mem_of_mem_drop (List.mem_of_mem_take h)
theorem cut_len (xs : List D) (lo hi : Option Int) : (OE.cutD xs lo hi).length ≤ xs.length := by
  unfold OE.cutD
  rw [List.length_take, List.length_drop]; omega
theorem nats_atoms (S : List Nat) : ∀ d ∈ S.map (fun x : Nat => D.int (x : Nat)), isAtom d = true := fun d hd => by obtain ⟨x, -, rfl⟩ := List.mem_map.mp hd; rfl
theorem cc_c2 (Γ : Fns) {g t x3 : D} {S : List Nat} (c : D) : ev Γ [0] F._law_changed_chains.c2 [g, LN S, c, x3, t, .hole, .hole] = some (.lst true (S.map fun y => ON (S.filter fun x => decide (x ≠ y))), [g, LN S, c, x3, t, .hole, .hole]) := by
  have c1 : ∀ y ∈ S, ev Γ [0] F._law_changed_chains.c1 [g, LN S, c, x3, t, .int (y : Nat), .hole] = some (ON (S.filter fun x => decide (x ≠ y)), [g, LN S, c, x3, t, .int (y : Nat), .hole]) := fun y _ => by
    have hf : (S.filterMap fun x => if x ≠ y then some (D.int (x : Nat)) else none) = (S.filter fun x => decide (x ≠ y)).map fun x : Nat => D.int (x : Nat) := filterMap_if _ _ _
    simp only [ON]
    rw [← hf]
    refine (comp_filt (env1 := [g, LN S, c, x3, t, .int (y : Nat), .hole]) (r := none) (xs := S) (fun x : Nat => D.int (x : Nat)) (fun x => if x ≠ y then some (D.int (x : Nat)) else none) ?_ fun x hx => ?_).trans ?_
    · simp [ev, evs, evA, evAnd, evOr, evI, ex, exs, runF, shP, getV, getP, place, isTys, isTy, outsOf, List.range_succ, fillA, backA, hasBw, cmpD, binD, bltD, bLen, ixv, subD, wipeD, bindT, bindMany, seqD, putD, putI, backD, isLstAt, setP, cStep, fStep, Function.comp_def]
    · by_cases h : x = y
      · subst h; simp [ev, evs, evA, evAnd, evOr, evI, ex, exs, runF, shP, getV, getP, place, isTys, isTy, outsOf, List.range_succ, fillA, backA, hasBw, cmpD, binD, bltD, bLen, ixv, subD, wipeD, bindT, bindMany, seqD, putD, putI, backD, isLstAt, setP, cStep, fStep, Function.comp_def]
      · have : ((x : Int) == (y : Int)) = false := by rw [beq_eq_false_iff_ne]; omega
        simp [ev, evs, evA, evAnd, evOr, evI, ex, exs, runF, shP, getV, getP, place, isTys, isTy, outsOf, List.range_succ, fillA, backA, hasBw, cmpD, binD, bltD, bLen, ixv, subD, wipeD, bindT, bindMany, seqD, putD, putI, backD, isLstAt, setP, cStep, fStep, Function.comp_def, this, h]
    · simp [ev, evs, evA, evAnd, evOr, evI, ex, exs, runF, shP, getV, getP, place, isTys, isTy, outsOf, List.range_succ, fillA, backA, hasBw, cmpD, binD, bltD, bLen, ixv, subD, wipeD, bindT, bindMany, seqD, putD, putI, backD, isLstAt, setP, cStep, fStep, Function.comp_def]
  refine (comp_map (env1 := [g, LN S, c, x3, t, .hole, .hole]) (r := none) (xs := S) (fun y : Nat => D.int (y : Nat)) (fun y => ON (S.filter fun x => decide (x ≠ y))) ?_ fun y hy => ?_).trans ?_
  · simp [ev, evs, evA, evAnd, evOr, evI, ex, exs, runF, shP, getV, getP, place, isTys, isTy, outsOf, List.range_succ, fillA, backA, hasBw, cmpD, binD, bltD, bLen, ixv, subD, wipeD, bindT, bindMany, seqD, putD, putI, backD, isLstAt, setP, cStep, fStep, Function.comp_def]
  · have := c1 y hy
    simp only [ON] at this
    simp [ev, evs, evA, evAnd, evOr, evI, ex, exs, runF, shP, getV, getP, place, isTys, isTy, outsOf, List.range_succ, fillA, backA, hasBw, cmpD, binD, bltD, bLen, ixv, subD, wipeD, bindT, bindMany, seqD, putD, putI, backD, isLstAt, setP, cStep, fStep, Function.comp_def, this]
  · simp [ev, evs, evA, evAnd, evOr, evI, ex, exs, runF, shP, getV, getP, place, isTys, isTy, outsOf, List.range_succ, fillA, backA, hasBw, cmpD, binD, bltD, bLen, ixv, subD, wipeD, bindT, bindMany, seqD, putD, putI, backD, isLstAt, setP, cStep, fStep, Function.comp_def]
theorem changed_ok (n : Nat) {N : Nat} {g v : D} {S : List Nat} {c : Nat} (hg : Gen N g) (hN : N ≤ 800000000) (hv : share v = LN S) (hS : S.length ≤ 8) (hc1 : 1 ≤ c) (hc8 : c ≤ 8) :
    ∃ ds g', (∀ d ∈ ds, okV d) ∧ Gen (N + 5000) g' ∧ evF prog (n + 4) 45 [g, v, .int (c : Nat)] = some (.lst true ds, [g', .hole, .hole]) := by
  have lm : ∀ q : Nat, q ≤ 100 → q ≤ lim := fun q hq => le_lim (by omega)
  have hrg := rngs_zero c (by omega)
  obtain ⟨ga, gb, gc, rfl, _⟩ := id hg
  have hA := nats_atoms S
  have hAl : (S.map fun x : Nat => D.int (x : Nat)).length ≤ 8 := by rw [List.length_map]; exact hS
  generalize hX : (S.map fun x : Nat => D.int (x : Nat)) = X at *
  have hXs : share (.lst false X) = .lst false X := by rw [← hX, share_LN]
  have sX : S.length = X.length := by rw [← hX, List.length_map]
  have ca : ∀ (lo hi : Option Int), ∀ d ∈ OE.cutD X lo hi, isAtom d = true := fun lo hi d hd => hA d (cut_mem hd)
  have cl : ∀ (lo hi : Option Int), (OE.cutD X lo hi).length ≤ 8 := fun lo hi => Nat.le_trans (cut_len X lo hi) hAl
  have at1 : ∀ d : D, isAtom d = true → ∀ e ∈ [d], isAtom e = true := fun d h e he => by rw [List.mem_singleton.mp he]; exact h
  have s1 : ∃ ds, (∀ d ∈ ds, okV d) ∧ ds.length ≤ 20 ∧ ex (evF prog (n + 3)) [0] (.asg 3 (.lst (.cons .non (.cons (.int 7) (.cons (.blt .tuple (.cons (.sh 1) .nil)) (.cons (.bin .add (.sh 1) (.lst (.cons .non .nil))) (.cons (.bin .add (.sh 1) (.lst (.cons (.sh 2) .nil))) (.cons (.bin .add (.sh 1) (.lst (.cons (.bin .sub (.int 0) (.int 1)) .nil))) (.cons (.bin .add (.sh 1) (.lst (.cons (.bl false) .nil))) (.cons (.bin .add (.sh 1) (.lst (.cons (.str "0") .nil))) (.cons (.slc (.sh 1) false .non true (.neg (.int 1))) (.cons (.rvs (.sh 1)) (.cons (.bin .add (.sh 1) (.slc (.sh 1) false .non true (.int 1))) (.cons (.lrg1 (.sh 2)) (.cons (.lst .nil) .nil))))))))))))))) [G ga gb gc, .lst false X, .int (c : Nat), .hole, .hole, .hole, .hole] = some (.nx [G ga gb gc, .lst false X, .int (c : Nat), .lst true ds, .hole, .hole, .hole]) := by
    have l1 : X.length + 1 ≤ lim := le_lim (by omega)
    have l2 : X.length + (OE.cutD X none (some 1)).length ≤ lim := le_lim (by have := cl none (some 1); omega)
    refine ⟨[.non, .int 7, .tup X, .lst true (X ++ [.non]), .lst true (X ++ [.int (c : Nat)]), .lst true (X ++ [.int (-1)]), .lst true (X ++ [.bl false]), .lst true (X ++ [.str "0"]), .lst true (OE.cutD X none (some (-1))), .lst true X.reverse, .lst true (X ++ OE.cutD X none (some 1)), .lst true ((List.range c).map fun i : Nat => D.int (i : Nat)), .lst true []], ?_, by simp [ev, evs, evA, evAnd, evOr, evI, ex, exs, runF, shP, getV, getP, place, isTys, isTy, outsOf, List.range_succ, fillA, backA, hasBw, cmpD, binD, bltD, bLen, ixv, subD, wipeD, bindT, bindMany, seqD, putD, putI, backD, isLstAt, setP, cStep, fStep, Function.comp_def], ?_⟩
    · intro d hd
      simp only [List.mem_cons, List.not_mem_nil, or_false] at hd
      rcases hd with rfl | rfl | rfl | rfl | rfl | rfl | rfl | rfl | rfl | rfl | rfl | rfl | rfl
      · exact .inl (.inl rfl)
      · exact .inl (.inr (.inl ⟨_, rfl⟩))
      · exact .inl (.inr (.inr ⟨_, rfl⟩))
      · exact okV_app hA (at1 _ rfl) (by simp [ev, evs, evA, evAnd, evOr, evI, ex, exs, runF, shP, getV, getP, place, isTys, isTy, outsOf, List.range_succ, fillA, backA, hasBw, cmpD, binD, bltD, bLen, ixv, subD, wipeD, bindT, bindMany, seqD, putD, putI, backD, isLstAt, setP, cStep, fStep, Function.comp_def]; omega)
      · exact okV_app hA (at1 _ rfl) (by simp [ev, evs, evA, evAnd, evOr, evI, ex, exs, runF, shP, getV, getP, place, isTys, isTy, outsOf, List.range_succ, fillA, backA, hasBw, cmpD, binD, bltD, bLen, ixv, subD, wipeD, bindT, bindMany, seqD, putD, putI, backD, isLstAt, setP, cStep, fStep, Function.comp_def]; omega)
      · exact okV_app hA (at1 _ rfl) (by simp [ev, evs, evA, evAnd, evOr, evI, ex, exs, runF, shP, getV, getP, place, isTys, isTy, outsOf, List.range_succ, fillA, backA, hasBw, cmpD, binD, bltD, bLen, ixv, subD, wipeD, bindT, bindMany, seqD, putD, putI, backD, isLstAt, setP, cStep, fStep, Function.comp_def]; omega)
      · exact okV_app hA (at1 _ rfl) (by simp [ev, evs, evA, evAnd, evOr, evI, ex, exs, runF, shP, getV, getP, place, isTys, isTy, outsOf, List.range_succ, fillA, backA, hasBw, cmpD, binD, bltD, bLen, ixv, subD, wipeD, bindT, bindMany, seqD, putD, putI, backD, isLstAt, setP, cStep, fStep, Function.comp_def]; omega)
      · exact okV_app hA (at1 _ (by decide +kernel)) (by simp [ev, evs, evA, evAnd, evOr, evI, ex, exs, runF, shP, getV, getP, place, isTys, isTy, outsOf, List.range_succ, fillA, backA, hasBw, cmpD, binD, bltD, bLen, ixv, subD, wipeD, bindT, bindMany, seqD, putD, putI, backD, isLstAt, setP, cStep, fStep, Function.comp_def]; omega)
      · exact okV_lst (ca _ _) (by have := cl none (some (-1)); omega)
      · exact okV_lst (fun d hd => hA d (List.mem_reverse.mp hd)) (by rw [List.length_reverse]; omega)
      · exact okV_app hA (ca _ _) (by have := cl none (some 1); omega)
      · exact okV_lst (nats_atoms _) (by simp [ev, evs, evA, evAnd, evOr, evI, ex, exs, runF, shP, getV, getP, place, isTys, isTy, outsOf, List.range_succ, fillA, backA, hasBw, cmpD, binD, bltD, bLen, ixv, subD, wipeD, bindT, bindMany, seqD, putD, putI, backD, isLstAt, setP, cStep, fStep, Function.comp_def]; omega)
      · exact okV_lst (by simp [ev, evs, evA, evAnd, evOr, evI, ex, exs, runF, shP, getV, getP, place, isTys, isTy, outsOf, List.range_succ, fillA, backA, hasBw, cmpD, binD, bltD, bLen, ixv, subD, wipeD, bindT, bindMany, seqD, putD, putI, backD, isLstAt, setP, cStep, fStep, Function.comp_def]) (by simp [ev, evs, evA, evAnd, evOr, evI, ex, exs, runF, shP, getV, getP, place, isTys, isTy, outsOf, List.range_succ, fillA, backA, hasBw, cmpD, binD, bltD, bLen, ixv, subD, wipeD, bindT, bindMany, seqD, putD, putI, backD, isLstAt, setP, cStep, fStep, Function.comp_def])
    · simp [ev, evs, evA, evAnd, evOr, evI, ex, exs, runF, shP, getV, getP, place, isTys, isTy, outsOf, List.range_succ, fillA, backA, hasBw, cmpD, binD, bltD, bLen, ixv, subD, wipeD, bindT, bindMany, seqD, putD, putI, backD, isLstAt, setP, cStep, fStep, Function.comp_def, hXs, lm, l1, l2, bTuple, slcD, hrg]
  obtain ⟨ds, hds, hdl, s1⟩ := s1
  obtain ⟨k, g1, k1, k2, hg1, e1⟩ := random_ok (n + 1) (m := (X.length : Nat) + 1) hg (by omega) (by omega) (by omega)
  obtain ⟨k, rfl⟩ := Int.eq_ofNat_of_zero_le k1
  obtain ⟨a1, b1, c1, rfl, _⟩ := id hg1
  obtain ⟨r, g2, r1, r2, hg2, e2⟩ := random_ok (n + 1) (m := (c : Nat)) hg1 (by omega) (by omega) (by omega)
  obtain ⟨a2, b2, c2, rfl, _⟩ := id hg2
  have hXI : share (.lst false X) = LI (S.map fun x : Nat => (x : Int)) := by rw [hXs, ← hX, LI, List.map_map]; rfl
  obtain ⟨ms, g3, hm, hg3, e3⟩ := order_ok n hg2 (by simp [ev, evs, evA, evAnd, evOr, evI, ex, exs, runF, shP, getV, getP, place, isTys, isTy, outsOf, List.range_succ, fillA, backA, hasBw, cmpD, binD, bltD, bLen, ixv, subD, wipeD, bindT, bindMany, seqD, putD, putI, backD, isLstAt, setP, cStep, fStep, Function.comp_def]; omega) hXI (by simp [ev, evs, evA, evAnd, evOr, evI, ex, exs, runF, shP, getV, getP, place, isTys, isTy, outsOf, List.range_succ, fillA, backA, hasBw, cmpD, binD, bltD, bLen, ixv, subD, wipeD, bindT, bindMany, seqD, putD, putI, backD, isLstAt, setP, cStep, fStep, Function.comp_def]; omega)
  obtain ⟨a3, b3, c3, rfl, _⟩ := id hg3
  have hR : share (.lst true ((List.range c).map fun i : Nat => D.int (i : Nat))) = LI ((List.range c).map fun x : Nat => (x : Int)) := by rw [share_LN, LI, List.map_map]; rfl
  obtain ⟨ms2, g4, hm2, hg4, e4⟩ := order_ok n hg3 (by simp [ev, evs, evA, evAnd, evOr, evI, ex, exs, runF, shP, getV, getP, place, isTys, isTy, outsOf, List.range_succ, fillA, backA, hasBw, cmpD, binD, bltD, bLen, ixv, subD, wipeD, bindT, bindMany, seqD, putD, putI, backD, isLstAt, setP, cStep, fStep, Function.comp_def]; omega) hR (by simp [ev, evs, evA, evAnd, evOr, evI, ex, exs, runF, shP, getV, getP, place, isTys, isTy, outsOf, List.range_succ, fillA, backA, hasBw, cmpD, binD, bltD, bLen, ixv, subD, wipeD, bindT, bindMany, seqD, putD, putI, backD, isLstAt, setP, cStep, fStep, Function.comp_def]; omega)
  obtain ⟨a4, b4, c4, rfl, _⟩ := id hg4
  have hml : ms.length = X.length := by rw [hm.length_eq, List.length_map, sX]
  have hml2 : ms2.length = c := by rw [hm2.length_eq, List.length_map, List.length_range]
  have q1 := cl none (some (k : Int))
  have q2 := cl (some (k : Int)) none
  have ca1 := ca none (some (k : Int))
  have ca2 := ca (some (k : Int)) none
  have l1 : (OE.cutD X none (some (k : Int))).length + 1 ≤ lim := le_lim (by omega)
  have l2 : (OE.cutD X none (some (k : Int))).length + 1 + (OE.cutD X (some (k : Int)) none).length ≤ lim := le_lim (by omega)
  have d1 : ds.length < lim := lt_lim (by omega)
  have d2 : ds.length + 1 < lim := lt_lim (by omega)
  have d3 : ds.length + 1 + 1 < lim := lt_lim (by omega)
  have hsC := cc_c2 (evF prog (n + 3)) (g := G a4 b4 c4) (t := .int (k : Nat)) (S := S) (x3 := .hole) (.int (c : Nat))
  rw [show LN S = .lst false X by rw [← hX]] at hsC
  have l3 : ds.length + 1 + 1 + 1 + S.length ≤ lim := le_lim (by omega)
  have hintA : ∀ l : List Int, ∀ d ∈ l.map D.int, isAtom d = true := fun l d hd => by obtain ⟨x, -, rfl⟩ := List.mem_map.mp hd; rfl
  refine ⟨ds ++ [.lst true (OE.cutD X none (some (k : Int)) ++ [.int r] ++ OE.cutD X (some (k : Int)) none)] ++ [.lst true (ms.map D.int)] ++ [.lst true (ms2.map D.int)] ++ (S.map fun y => ON (S.filter fun x => decide (x ≠ y))), G a4 b4 c4, ?_, hg4.mono (by simp [ev, evs, evA, evAnd, evOr, evI, ex, exs, runF, shP, getV, getP, place, isTys, isTy, outsOf, List.range_succ, fillA, backA, hasBw, cmpD, binD, bltD, bLen, ixv, subD, wipeD, bindT, bindMany, seqD, putD, putI, backD, isLstAt, setP, cStep, fStep, Function.comp_def]; omega), ?_⟩
  · intro d hd
    simp only [List.mem_append, List.mem_singleton] at hd
    rcases hd with (((hd | rfl) | rfl) | rfl) | hd
    · exact hds d hd
    · refine okV_app (fun d hd => ?_) ca2 (by simp [ev, evs, evA, evAnd, evOr, evI, ex, exs, runF, shP, getV, getP, place, isTys, isTy, outsOf, List.range_succ, fillA, backA, hasBw, cmpD, binD, bltD, bLen, ixv, subD, wipeD, bindT, bindMany, seqD, putD, putI, backD, isLstAt, setP, cStep, fStep, Function.comp_def]; omega)
      rcases List.mem_append.mp hd with hd | hd
      · exact ca1 d hd
      · rw [List.mem_singleton.mp hd]; rfl
    · exact okV_lst (hintA _) (by rw [List.length_map]; omega)
    · exact okV_lst (hintA _) (by rw [List.length_map]; omega)
    · obtain ⟨y, -, rfl⟩ := List.mem_map.mp hd
      exact okV_lst (nats_atoms _) (by
        rw [List.length_map]
        have := List.length_filter_le (fun x => decide (x ≠ y)) S
        omega)
  have hv' : share v = .lst false X := by rw [hv, ← hX]
  show runF (evF prog (n + 3)) F._law_changed_chains [_, _, _] = _
  rw [F._law_changed_chains, runF_of (env := [G ga gb gc, .lst false X, .int (c : Nat), .hole, .hole, .hole, .hole]) (by rfl) (by simp [ev, evs, evA, evAnd, evOr, evI, ex, exs, runF, shP, getV, getP, place, isTys, isTy, outsOf, List.range_succ, fillA, backA, hasBw, cmpD, binD, bltD, bLen, ixv, subD, wipeD, bindT, bindMany, seqD, putD, putI, backD, isLstAt, setP, cStep, fStep, Function.comp_def, hv']) (show _ = some (Fl.rt (.lst true (ds ++ [.lst true (OE.cutD X none (some (k : Int)) ++ [.int r] ++ OE.cutD X (some (k : Int)) none)] ++ [.lst true (ms.map D.int)] ++ [.lst true (ms2.map D.int)] ++ (S.map fun y => ON (S.filter fun x => decide (x ≠ y))))) [G a4 b4 c4, .lst false X, .int (c : Nat), .hole, .int (k : Nat), .hole, .hole]) from ?_)]
  · simp [ev, evs, evA, evAnd, evOr, evI, ex, exs, runF, shP, getV, getP, place, isTys, isTy, outsOf, List.range_succ, fillA, backA, hasBw, cmpD, binD, bltD, bLen, ixv, subD, wipeD, bindT, bindMany, seqD, putD, putI, backD, isLstAt, setP, cStep, fStep, Function.comp_def]
  · rw [exs_nx s1]
    rw [exs_nx (env' := [G a1 b1 c1, .lst false X, .int (c : Nat), .lst true ds, .int (k : Nat), .hole, .hole]) (by simp [ev, evs, evA, evAnd, evOr, evI, ex, exs, runF, shP, getV, getP, place, isTys, isTy, outsOf, List.range_succ, fillA, backA, hasBw, cmpD, binD, bltD, bLen, ixv, subD, wipeD, bindT, bindMany, seqD, putD, putI, backD, isLstAt, setP, cStep, fStep, Function.comp_def, e1])]
    rw [exs_nx (env' := [G a2 b2 c2, .lst false X, .int (c : Nat), .lst true (ds ++ [.lst true (OE.cutD X none (some (k : Int)) ++ [.int r] ++ OE.cutD X (some (k : Int)) none)]), .int (k : Nat), .hole, .hole]) (by simp [ev, evs, evA, evAnd, evOr, evI, ex, exs, runF, shP, getV, getP, place, isTys, isTy, outsOf, List.range_succ, fillA, backA, hasBw, cmpD, binD, bltD, bLen, ixv, subD, wipeD, bindT, bindMany, seqD, putD, putI, backD, isLstAt, setP, cStep, fStep, Function.comp_def, hXs, slcD, e2, lm, l1, l2, d1])]
    rw [exs_nx (env' := [G a3 b3 c3, .lst false X, .int (c : Nat), .lst true (ds ++ [.lst true (OE.cutD X none (some (k : Int)) ++ [.int r] ++ OE.cutD X (some (k : Int)) none)] ++ [.lst true (ms.map D.int)]), .int (k : Nat), .hole, .hole]) (by simp [ev, evs, evA, evAnd, evOr, evI, ex, exs, runF, shP, getV, getP, place, isTys, isTy, outsOf, List.range_succ, fillA, backA, hasBw, cmpD, binD, bltD, bLen, ixv, subD, wipeD, bindT, bindMany, seqD, putD, putI, backD, isLstAt, setP, cStep, fStep, Function.comp_def, hXs, e3, d2])]
    rw [exs_nx (env' := [G a4 b4 c4, .lst false X, .int (c : Nat), .lst true (ds ++ [.lst true (OE.cutD X none (some (k : Int)) ++ [.int r] ++ OE.cutD X (some (k : Int)) none)] ++ [.lst true (ms.map D.int)] ++ [.lst true (ms2.map D.int)]), .int (k : Nat), .hole, .hole]) (by simp [ev, evs, evA, evAnd, evOr, evI, ex, exs, runF, shP, getV, getP, place, isTys, isTy, outsOf, List.range_succ, fillA, backA, hasBw, cmpD, binD, bltD, bLen, ixv, subD, wipeD, bindT, bindMany, seqD, putD, putI, backD, isLstAt, setP, cStep, fStep, Function.comp_def, hrg, e4, d3])]
    simp only [ON] at hsC ⊢
    simp [ev, evs, evA, evAnd, evOr, evI, ex, exs, runF, shP, getV, getP, place, isTys, isTy, outsOf, List.range_succ, fillA, backA, hasBw, cmpD, binD, bltD, bLen, ixv, subD, wipeD, bindT, bindMany, seqD, putD, putI, backD, isLstAt, setP, cStep, fStep, Function.comp_def, hsC, l3]
end K81

namespace K81
open OE PySem PySem.Spec PyProof.Rows L2

theorem lot_turns (n : Nat) (p : D) : ∀ (l : List Nat) (N : Nat) (g : D) (acc : List D), Gen N g → N + 100 * l.length ≤ 900000000 →
    ∃ (g' : D) (ks : List Nat), turns (cStep (evF prog (n + 2)) [0] [2] (.sh 2) (.nm 2) (some ()) (.cmp .eq (.call 26 (.io 0 (.ex (.int 2) .nil))) (.int 0))) (l.map fun i : Nat => D.int (i : Nat)) [g, p, .hole] acc = some (acc ++ ks.map (fun i : Nat => D.int (i : Nat)), [g', p, .hole]) ∧ ks.Sublist l ∧ Gen (N + 100 * l.length) g' := by
  intro l
  induction l with
  | nil => intro N g acc hg hN; exact ⟨g, [], by simp [ev, evs, evA, evAnd, evOr, evI, ex, exs, runF, shP, getV, getP, place, isTys, isTy, outsOf, List.range_succ, fillA, backA, hasBw, cmpD, binD, bltD, bLen, ixv, subD, wipeD, bindT, bindMany, seqD, putD, putI, backD, isLstAt, setP, cStep, fStep, Function.comp_def, turns], .slnil, hg⟩
  | cons x l ih =>
    intro N g acc hg hN
    rw [List.length_cons] at hN
    obtain ⟨r, g1, r1, r2, hg1, e1⟩ := random_ok n (m := 2) hg (by omega) (by omega) (by decide)
    obtain ⟨a, b, c, rfl, _⟩ := id hg
    obtain ⟨a1, b1, c1, rfl, _⟩ := id hg1
    by_cases h : r = 0
    · subst h
      obtain ⟨g', ks, e, hs, hg'⟩ := ih (N + 100) (G a1 b1 c1) (acc ++ [.int (x : Nat)]) hg1 (by omega)
      have hst : cStep (evF prog (n + 2)) [0] [2] (.sh 2) (.nm 2) (some ()) (.cmp .eq (.call 26 (.io 0 (.ex (.int 2) .nil))) (.int 0)) [G a b c, p, .hole] (.int (x : Nat)) = some (some (.int (x : Nat)), [G a1 b1 c1, p, .hole]) := by simp [ev, evs, evA, evAnd, evOr, evI, ex, exs, runF, shP, getV, getP, place, isTys, isTy, outsOf, List.range_succ, fillA, backA, hasBw, cmpD, binD, bltD, bLen, ixv, subD, wipeD, bindT, bindMany, seqD, putD, putI, backD, isLstAt, setP, cStep, fStep, Function.comp_def, e1]
      refine ⟨g', x :: ks, ?_, .cons₂ x hs, hg'.mono (by rw [List.length_cons]; omega)⟩
      rw [List.map_cons, turns, hst]
      simp only [e, List.append_assoc, List.map_cons, List.singleton_append]
    · obtain ⟨g', ks, e, hs, hg'⟩ := ih (N + 100) (G a1 b1 c1) acc hg1 (by omega)
      have h0 : (r == 0) = false := by simpa [ev, evs, evA, evAnd, evOr, evI, ex, exs, runF, shP, getV, getP, place, isTys, isTy, outsOf, List.range_succ, fillA, backA, hasBw, cmpD, binD, bltD, bLen, ixv, subD, wipeD, bindT, bindMany, seqD, putD, putI, backD, isLstAt, setP, cStep, fStep, Function.comp_def] using h
      have hst : cStep (evF prog (n + 2)) [0] [2] (.sh 2) (.nm 2) (some ()) (.cmp .eq (.call 26 (.io 0 (.ex (.int 2) .nil))) (.int 0)) [G a b c, p, .hole] (.int (x : Nat)) = some (none, [G a1 b1 c1, p, .hole]) := by simp [ev, evs, evA, evAnd, evOr, evI, ex, exs, runF, shP, getV, getP, place, isTys, isTy, outsOf, List.range_succ, fillA, backA, hasBw, cmpD, binD, bltD, bLen, ixv, subD, wipeD, bindT, bindMany, seqD, putD, putI, backD, isLstAt, setP, cStep, fStep, Function.comp_def, e1, h0]
      refine ⟨g', ks, ?_, .cons x hs, hg'.mono (by rw [List.length_cons]; omega)⟩
      rw [List.map_cons, turns, hst]
      simp only [e]
theorem lot_ok (n : Nat) {N : Nat} {g : D} {p : Nat} (hg : Gen N g) (hN : N ≤ 800000000) (hp : p ≤ 100) : ∃ g' cr, okCr p cr ∧ Gen (N + 20000) g' ∧ evF prog (n + 3) 42 [g, .int (p : Nat)] = some (ON cr, [g', .hole]) := by
  obtain ⟨a, b, c, rfl, _⟩ := id hg
  obtain ⟨g', ks, e, hs, hg'⟩ := lot_turns n (.int (p : Nat)) (List.range p) N (G a b c) [] hg (by rw [List.length_range]; omega)
  rw [List.length_range] at hg'
  obtain ⟨a', b', c', rfl, _⟩ := id hg'
  refine ⟨G a' b' c', ks, ⟨List.pairwise_lt_range.sublist hs, fun x hx => List.mem_range.mp (hs.subset hx)⟩, hg'.mono (by omega), ?_⟩
  have hrg := rngs_zero p (by omega)
  have c1 : ev (evF prog (n + 2)) [0] F._law_lot.c1 [G a b c, .int (p : Nat), .hole] = some (ON ks, [G a' b' c', .int (p : Nat), .hole]) := by
    rw [F._law_lot.c1, ev_comp]
    have hi : evI (evF prog (n + 2)) [0] (.rng1 (.sh 1)) [G a b c, .int (p : Nat), .hole] = some ((List.range p).map (fun i : Nat => D.int (i : Nat)), [G a b c, .int (p : Nat), .hole], none) := by simp [ev, evs, evA, evAnd, evOr, evI, ex, exs, runF, shP, getV, getP, place, isTys, isTy, outsOf, List.range_succ, fillA, backA, hasBw, cmpD, binD, bltD, bLen, ixv, subD, wipeD, bindT, bindMany, seqD, putD, putI, backD, isLstAt, setP, cStep, fStep, Function.comp_def, hrg]
    rw [hi]
    simp only [Option.bind_some, wipeD, List.set]
    rw [e]
    simp [ev, evs, evA, evAnd, evOr, evI, ex, exs, runF, shP, getV, getP, place, isTys, isTy, outsOf, List.range_succ, fillA, backA, hasBw, cmpD, binD, bltD, bLen, ixv, subD, wipeD, bindT, bindMany, seqD, putD, putI, backD, isLstAt, setP, cStep, fStep, Function.comp_def]
  show runF (evF prog (n + 2)) F._law_lot [_, _] = _
  simp [ev, evs, evA, evAnd, evOr, evI, ex, exs, runF, shP, getV, getP, place, isTys, isTy, outsOf, List.range_succ, fillA, backA, hasBw, cmpD, binD, bltD, bLen, ixv, subD, wipeD, bindT, bindMany, seqD, putD, putI, backD, isLstAt, setP, cStep, fStep, Function.comp_def, F._law_lot, c1]
end K81

namespace K81
open OE PySem PySem.Spec PyProof.Rows L2

theorem turns_filtI {α : Type} {step : List D → D → Option (Option D × List D)} (f : α → D) (g : α → Option D) (I : List D → Prop) : ∀ (xs : List α) (env acc : List D), I env → (∀ x ∈ xs, ∀ env, I env → ∃ env', step env (f x) = some (g x, env') ∧ I env') → ∃ env', turns step (xs.map f) env acc = some (acc ++ xs.filterMap g, env') ∧ I env'
  | [], env, acc, hI, _ => ⟨env, by simp [ev, evs, evA, evAnd, evOr, evI, ex, exs, runF, shP, getV, getP, place, isTys, isTy, outsOf, List.range_succ, fillA, backA, hasBw, cmpD, binD, bltD, bLen, ixv, subD, wipeD, bindT, bindMany, seqD, putD, putI, backD, isLstAt, setP, cStep, fStep, Function.comp_def, turns], hI⟩
  | x :: xs, env, acc, hI, h => by
    obtain ⟨env1, e, h1⟩ := h x List.mem_cons_self env hI
    have ih := fun acc => turns_filtI f g I xs env1 acc h1 fun y hy => h y (List.mem_cons_of_mem _ hy)
    rw [List.map_cons, turns, e]
    cases hg : g x with
    | none =>
      obtain ⟨env', e2, h2⟩ := ih acc
      exact ⟨env', by simp only [e2, List.filterMap_cons, hg], h2⟩
    | some y =>
      obtain ⟨env', e2, h2⟩ := ih (acc ++ [y])
      exact ⟨env', by simp only [e2, List.filterMap_cons, hg, List.append_assoc, List.singleton_append], h2⟩
theorem ans_mono {p : Nat} {cs : List (List Nat × List Nat)} {s t : List Nat} (ok : okH p cs) (hs : bitl (p + cs.length) s) (ht : bitl (p + cs.length) t) (h : leL s t) : leL (ans cs s) (ans cs t) := fun i => by
  by_cases hi : i < cs.length
  · simp only [ans, List.getElem?_map, List.getElem?_eq_getElem hi, Option.map_some, Option.getD_some, ansOne]
    refine (ok.co _ (List.getElem_mem hi)).mono _ _ (said_bits hs.2) (said_bits ht.2) fun j => ?_
    simp only [List.getElem?_map]
    cases hj : cs[i].1[j]? with
    | none => simp [ev, evs, evA, evAnd, evOr, evI, ex, exs, runF, shP, getV, getP, place, isTys, isTy, outsOf, List.range_succ, fillA, backA, hasBw, cmpD, binD, bltD, bLen, ixv, subD, wipeD, bindT, bindMany, seqD, putD, putI, backD, isLstAt, setP, cStep, fStep, Function.comp_def]
    | some h' =>
      simp only [Option.map_some, Option.getD_some]
      exact h _
  · simp [ev, evs, evA, evAnd, evOr, evI, ex, exs, runF, shP, getV, getP, place, isTys, isTy, outsOf, List.range_succ, fillA, backA, hasBw, cmpD, binD, bltD, bLen, ixv, subD, wipeD, bindT, bindMany, seqD, putD, putI, backD, isLstAt, setP, cStep, fStep, Function.comp_def, ans, List.getElem?_eq_none (Nat.le_of_not_lt hi)]
theorem said_bitl {p c : Nat} {cr t : List Nat} (ht : bitl c t) : bitl (p + c) (bits p cr ++ t) := by
  have h1 := bits_ok p cr
  exact ⟨by rw [List.length_append, h1.1, ht.1], fun y hy => by
    rcases List.mem_append.mp hy with hy | hy
    · exact h1.2 y hy
    · exact ht.2 y hy⟩
theorem bits_le {p : Nat} {cr cr' : List Nat} (h : ∀ x ∈ cr, x ∈ cr') : leL (bits p cr) (bits p cr') := fun i => by
  by_cases hi : i < p
  · rw [bits_at hi, bits_at hi]
    by_cases h1 : i ∈ cr
    · simp [ev, evs, evA, evAnd, evOr, evI, ex, exs, runF, shP, getV, getP, place, isTys, isTy, outsOf, List.range_succ, fillA, backA, hasBw, cmpD, binD, bltD, bLen, ixv, subD, wipeD, bindT, bindMany, seqD, putD, putI, backD, isLstAt, setP, cStep, fStep, Function.comp_def, h1, h i h1]
    · simp [ev, evs, evA, evAnd, evOr, evI, ex, exs, runF, shP, getV, getP, place, isTys, isTy, outsOf, List.range_succ, fillA, backA, hasBw, cmpD, binD, bltD, bLen, ixv, subD, wipeD, bindT, bindMany, seqD, putD, putI, backD, isLstAt, setP, cStep, fStep, Function.comp_def, h1]
  · rw [List.getElem?_eq_none (by rw [(bits_ok _ _).1]; omega)]; simp [ev, evs, evA, evAnd, evOr, evI, ex, exs, runF, shP, getV, getP, place, isTys, isTy, outsOf, List.range_succ, fillA, backA, hasBw, cmpD, binD, bltD, bLen, ixv, subD, wipeD, bindT, bindMany, seqD, putD, putI, backD, isLstAt, setP, cStep, fStep, Function.comp_def]
theorem app_le {a b t u : List Nat} (hl : a.length = b.length) (h : leL a b) (h2 : leL t u) : leL (a ++ t) (b ++ u) := fun i => by
  rw [List.getElem?_append, List.getElem?_append, hl]
  split
  · exact h i
  · exact h2 _
theorem low_mono {p : Nat} {cs : List (List Nat × List Nat)} {cr cr' : List Nat} (ok : okH p cs) (h : ∀ x ∈ cr, x ∈ cr') : leL (low p cs cr) (low p cs cr') := by
  have key : ∀ k, leL (iter (fH p cs cr) (zeros cs.length) k) (iter (fH p cs cr') (zeros cs.length) k) := by
    intro k
    induction k with
    | zero => exact leL.refl _
    | succ k ih =>
      have b1 := iter_bits (fH_ris ok cr) (zeros_bits _) k
      have b2 := iter_bits (fH_ris ok cr') (zeros_bits _) k
      exact ans_mono ok (said_bitl b1) (said_bitl b2) (app_le (by rw [(bits_ok _ _).1, (bits_ok _ _).1]) (bits_le h) ih)
  exact key cs.length
theorem yes_bits {p : Nat} {cr : List Nat} {x : Nat} : x ∈ yes (bits p cr) ↔ x < p ∧ x ∈ cr := by
  rw [yes_mem, (bits_ok _ _).1]
  constructor
  · rintro ⟨h1, h2⟩
    rw [bits_at h1] at h2
    exact ⟨h1, by
      split at h2
      · assumption
      · omega⟩
  · rintro ⟨h1, h2⟩
    exact ⟨h1, by rw [bits_at h1, if_pos h2]⟩
theorem fH_yes {p : Nat} {cs : List (List Nat × List Nat)} {cr : List Nat} : fH p cs (yes (bits p cr)) = fH p cs cr := by
  have : bits p (yes (bits p cr)) = bits p cr := by
    unfold bits
    refine List.map_congr_left fun i hi => ?_
    have hm := yes_bits (p := p) (cr := cr) (x := i)
    unfold bits at hm
    rw [List.mem_range] at hi
    by_cases h : i ∈ cr
    · rw [if_pos h, if_pos (hm.mpr ⟨hi, h⟩)]
    · rw [if_neg h, if_neg fun z => h (hm.mp z).2]
  unfold fH
  rw [this]
/-- the law's own word for it -/
def wideB (cr : List Nat) (b : List Nat) : Bool := decide (∀ x ∈ cr, x ∈ yes b)
def lawBr (p : Nat) (cs : List (List Nat × List Nat)) (cr : List Nat) (k : Nat) : Bool := ((B2 p).filter (wideB cr)).all fun b => (stays cs.length (fH p cs (yes b))).all fun row => (row[k]?).getD 0 != 0
theorem lawBr_eq {p : Nat} {cs : List (List Nat × List Nat)} {cr : List Nat} {k : Nat} (ok : okH p cs) (oc : okCr p cr) (hk : k < cs.length) : lawBr p cs cr k = ((low p cs cr)[k]? == some 1) := by
  have r := fH_ris ok cr
  have hl := low_len ok cr
  have kl : k < (low p cs cr).length := by rw [hl.1]; exact hk
  have g1 : (low p cs cr)[k]? = some (low p cs cr)[k] := List.getElem?_eq_getElem kl
  have hb := hl.2 _ (List.getElem_mem kl)
  rw [Bool.eq_iff_iff, lawBr, List.all_eq_true, g1]
  simp only [List.all_eq_true, List.mem_filter, beq_iff_eq, Option.some.injEq, bne_iff_ne, wideB, decide_eq_true_eq]
  constructor
  · intro h
    have h2 := h (bits p cr) ⟨B2_mem.mpr (bits_ok _ _), fun x hx => yes_bits.mpr ⟨oc.bd x hx, hx⟩⟩ (low p cs cr) (by rw [fH_yes]; exact stays_mem.mpr ⟨hl, lst_fix r⟩)
    rw [g1] at h2
    simp only [Option.getD_some] at h2
    omega
  · intro h b hb2 row hrow
    have h1 := low_mono ok hb2.2 k
    have hm := stays_mem.mp hrow
    have h2 := lst_le (fH_ris ok (yes b)) hm.1 hm.2 k
    rw [g1, h] at h1
    change _ ≤ ((low p cs (yes b))[k]?).getD 0 at h1
    change ((low p cs (yes b))[k]?).getD 0 ≤ _ at h2
    simp only [Option.getD_some] at h1
    omega
end K81

namespace K81
open OE PySem PySem.Spec PyProof.Rows L2

section
variable {p : Nat} {cs : List (List Nat × List Nat)} {cr : List Nat} {k : Nat}
theorem br_c1 (Γ : Fns) (o : Bool) (x3 : D) (b : List Nat) : ∃ o', ev Γ [] F._law_brings.c1 [cH p cs, LN cr, .int (k : Nat), x3, .lst o ((yes b).map fun x : Nat => .int (x : Nat)), .hole, .hole] = some (ON (cr.filter fun x => decide (x ∉ yes b)), [cH p cs, LN cr, .int (k : Nat), x3, .lst o' ((yes b).map fun x : Nat => .int (x : Nat)), .hole, .hole]) := by
  have hf : (cr.filterMap fun x => if x ∉ yes b then some (D.int (x : Nat)) else none) = (cr.filter fun x => decide (x ∉ yes b)).map fun x : Nat => D.int (x : Nat) := filterMap_if _ _ _
  obtain ⟨env', e, o', rfl⟩ := turns_filtI (step := cStep Γ [] [5] (.sh 5) (.nm 5) (some ()) (.cmp .notIn (.sh 5) (.sh 4))) (fun x : Nat => D.int (x : Nat)) (fun x => if x ∉ yes b then some (D.int (x : Nat)) else none) (fun env => ∃ o, env = [cH p cs, LN cr, .int (k : Nat), x3, .lst o ((yes b).map fun x : Nat => .int (x : Nat)), .hole, .hole]) cr [cH p cs, LN cr, .int (k : Nat), x3, .lst o ((yes b).map fun x : Nat => .int (x : Nat)), .hole, .hole] [] ⟨o, rfl⟩ (by
    rintro x hx env ⟨o, rfl⟩
    have := any_cast x (yes b)
    refine ⟨[cH p cs, LN cr, .int (k : Nat), x3, LN (yes b), .hole, .hole], ?_, false, rfl⟩
    by_cases h : x ∈ yes b
    · simp only [h, decide_true] at this
      simp [ev, evs, evA, evAnd, evOr, evI, ex, exs, runF, shP, getV, getP, place, isTys, isTy, outsOf, List.range_succ, fillA, backA, hasBw, cmpD, binD, bltD, bLen, ixv, subD, wipeD, bindT, bindMany, seqD, putD, putI, backD, isLstAt, setP, cStep, fStep, Function.comp_def, this, h]
    · simp only [h, decide_false] at this
      simp [ev, evs, evA, evAnd, evOr, evI, ex, exs, runF, shP, getV, getP, place, isTys, isTy, outsOf, List.range_succ, fillA, backA, hasBw, cmpD, binD, bltD, bLen, ixv, subD, wipeD, bindT, bindMany, seqD, putD, putI, backD, isLstAt, setP, cStep, fStep, Function.comp_def, this, h])
  refine ⟨o', ?_⟩
  rw [F._law_brings.c1, ev_comp]
  have hi : evI Γ [] (.e (.sh 1)) [cH p cs, LN cr, .int (k : Nat), x3, .lst o ((yes b).map fun x : Nat => .int (x : Nat)), .hole, .hole] = some (cr.map (fun x : Nat => D.int (x : Nat)), [cH p cs, LN cr, .int (k : Nat), x3, .lst o ((yes b).map fun x : Nat => .int (x : Nat)), .hole, .hole], none) := by simp [ev, evs, evA, evAnd, evOr, evI, ex, exs, runF, shP, getV, getP, place, isTys, isTy, outsOf, List.range_succ, fillA, backA, hasBw, cmpD, binD, bltD, bLen, ixv, subD, wipeD, bindT, bindMany, seqD, putD, putI, backD, isLstAt, setP, cStep, fStep, Function.comp_def]
  rw [hi]
  simp only [Option.bind_some, wipeD, List.set]
  rw [e, hf]
  simp [ev, evs, evA, evAnd, evOr, evI, ex, exs, runF, shP, getV, getP, place, isTys, isTy, outsOf, List.range_succ, fillA, backA, hasBw, cmpD, binD, bltD, bLen, ixv, subD, wipeD, bindT, bindMany, seqD, putD, putI, backD, isLstAt, setP, cStep, fStep, Function.comp_def]
theorem lawbrings_ok (n : Nat) {u v : D} (hu : share u = cH p cs) (hv : share v = LN cr) (ok : okH p cs) (oc : okCr p cr) (hk : k < cs.length) : evF prog (n + 7) 41 [u, v, .int (k : Nat)] = some (.bl ((low p cs cr)[k]? == some 1), [.hole, .hole, .hole]) := by
  have p6 := ok.p6
  have hlots := lots_ok (n + 4) (p := p) (by omega)
  have c2 : ev (evF prog (n + 6)) [] F._law_brings.c2 [cH p cs, LN cr, .int (k : Nat), .hole, .hole, .hole, .hole] = some (.lst true (((B2 p).filter fun b => decide (wideB cr b = true)).map fun b => LN (yes b)), [cH p cs, LN cr, .int (k : Nat), .hole, .hole, .hole, .hole]) := by
    rw [← filterMap_if]
    refine (comp_filt (env1 := [cH p cs, LN cr, .int (k : Nat), .hole, .hole, .hole, .hole]) (r := none) (xs := B2 p) (fun b => ON (yes b)) (fun b => if wideB cr b = true then some (LN (yes b)) else none) ?_ fun b hb => ?_).trans ?_
    · simp [ev, evs, evA, evAnd, evOr, evI, ex, exs, runF, shP, getV, getP, place, isTys, isTy, outsOf, List.range_succ, fillA, backA, hasBw, cmpD, binD, bltD, bLen, ixv, subD, wipeD, bindT, bindMany, seqD, putD, putI, backD, isLstAt, setP, cStep, fStep, Function.comp_def, hlots]
    · obtain ⟨o', h1⟩ := br_c1 (evF prog (n + 6)) (p := p) (cs := cs) (cr := cr) (k := k) true .hole b
      have he := eqD_nats true true (cr.filter fun x => decide (x ∉ yes b)) []
      have e0 : ((cr.filter fun x => decide (x ∉ yes b)) == []) = wideB cr b := by
        rw [Bool.eq_iff_iff, beq_iff_eq, List.filter_eq_nil_iff, wideB, decide_eq_true_iff]
        simp [ev, evs, evA, evAnd, evOr, evI, ex, exs, runF, shP, getV, getP, place, isTys, isTy, outsOf, List.range_succ, fillA, backA, hasBw, cmpD, binD, bltD, bLen, ixv, subD, wipeD, bindT, bindMany, seqD, putD, putI, backD, isLstAt, setP, cStep, fStep, Function.comp_def]
      rw [e0] at he
      simp only [List.map_nil] at he
      simp only [ON] at h1
      clear e0
      generalize (cr.filter fun x => decide (x ∉ yes b)) = L at *
      cases hw : wideB cr b <;> rw [hw] at he <;> simp [ev, evs, evA, evAnd, evOr, evI, ex, exs, runF, shP, getV, getP, place, isTys, isTy, outsOf, List.range_succ, fillA, backA, hasBw, cmpD, binD, bltD, bLen, ixv, subD, wipeD, bindT, bindMany, seqD, putD, putI, backD, isLstAt, setP, cStep, fStep, Function.comp_def, h1, he]
    · simp [ev, evs, evA, evAnd, evOr, evI, ex, exs, runF, shP, getV, getP, place, isTys, isTy, outsOf, List.range_succ, fillA, backA, hasBw, cmpD, binD, bltD, bLen, ixv, subD, wipeD, bindT, bindMany, seqD, putD, putI, backD, isLstAt, setP, cStep, fStep, Function.comp_def]
  have c3 : ∀ (x3 : D) (b : List Nat), ev (evF prog (n + 6)) [] F._law_brings.c3 [cH p cs, LN cr, .int (k : Nat), x3, LN (yes b), .hole, .hole] = some (.lst true (((stays cs.length (fH p cs (yes b))).filter fun row => decide ((row[k]?).getD 0 = 0)).map LN), [cH p cs, LN cr, .int (k : Nat), x3, LN (yes b), .hole, .hole]) := fun x3 b => by
    have ho := outcomes_ok (n + 3) (u := cH p cs) (v := LN (yes b)) (share_cH p cs) (share_LN _ _) ok
    rw [← filterMap_if]
    refine (comp_filt (env1 := [cH p cs, LN cr, .int (k : Nat), x3, LN (yes b), .hole, .hole]) (r := none) (xs := stays cs.length (fH p cs (yes b))) LN (fun row => if (row[k]?).getD 0 = 0 then some (LN row) else none) ?_ fun row hr => ?_).trans ?_
    · simp [ev, evs, evA, evAnd, evOr, evI, ex, exs, runF, shP, getV, getP, place, isTys, isTy, outsOf, List.range_succ, fillA, backA, hasBw, cmpD, binD, bltD, bLen, ixv, subD, wipeD, bindT, bindMany, seqD, putD, putI, backD, isLstAt, setP, cStep, fStep, Function.comp_def, ho]
    · have hm := (stays_mem.mp hr).1
      have kr : k < row.length := by rw [hm.1]; exact hk
      have g1 : row[k]? = some row[k] := List.getElem?_eq_getElem kr
      by_cases h : row[k] = 0
      · simp [ev, evs, evA, evAnd, evOr, evI, ex, exs, runF, shP, getV, getP, place, isTys, isTy, outsOf, List.range_succ, fillA, backA, hasBw, cmpD, binD, bltD, bLen, ixv, subD, wipeD, bindT, bindMany, seqD, putD, putI, backD, isLstAt, setP, cStep, fStep, Function.comp_def, g1, h]
      · have : ((row[k] : Int) == 0) = false := by rw [beq_eq_false_iff_ne]; omega
        simp [ev, evs, evA, evAnd, evOr, evI, ex, exs, runF, shP, getV, getP, place, isTys, isTy, outsOf, List.range_succ, fillA, backA, hasBw, cmpD, binD, bltD, bLen, ixv, subD, wipeD, bindT, bindMany, seqD, putD, putI, backD, isLstAt, setP, cStep, fStep, Function.comp_def, g1, h, this]
    · simp [ev, evs, evA, evAnd, evOr, evI, ex, exs, runF, shP, getV, getP, place, isTys, isTy, outsOf, List.range_succ, fillA, backA, hasBw, cmpD, binD, bltD, bLen, ixv, subD, wipeD, bindT, bindMany, seqD, putD, putI, backD, isLstAt, setP, cStep, fStep, Function.comp_def]
  have plainLN : ∀ l : List (List Nat), (l.map LN).all plainD = true := fun l => by
    rw [List.all_map, List.all_eq_true]
    intro x _
    have := plain_ints false (x.map fun y : Nat => (y : Int))
    rw [List.map_map] at this
    exact this
  have hsW : share (.lst true (((B2 p).filter fun b => decide (wideB cr b = true)).map fun b => LN (yes b))) = .lst false (((B2 p).filter fun b => decide (wideB cr b = true)).map fun b => LN (yes b)) := by
    show D.lst false (share.shareL _) = _
    rw [shareL_map, List.map_map]
    exact congrArg _ (List.map_congr_left fun b _ => share_LN false _)
  have hsW2 := share_share (.lst true (((B2 p).filter fun b => decide (wideB cr b = true)).map fun b => LN (yes b)))
  rw [hsW] at hsW2
  have c4 : ev (evF prog (n + 6)) [] F._law_brings.c4 [cH p cs, LN cr, .int (k : Nat), .lst true (((B2 p).filter fun b => decide (wideB cr b = true)).map fun b => LN (yes b)), .hole, .hole, .hole] = some (.lst true ((((B2 p).filter fun b => decide (wideB cr b = true)).filter fun b => decide ((stays cs.length (fH p cs (yes b))).any (fun row => decide ((row[k]?).getD 0 = 0)) = true)).map fun b => LN (yes b)), [cH p cs, LN cr, .int (k : Nat), .lst false (((B2 p).filter fun b => decide (wideB cr b = true)).map fun b => LN (yes b)), .hole, .hole, .hole]) := by
    rw [← filterMap_if (p := fun b => (stays cs.length (fH p cs (yes b))).any (fun row => decide ((row[k]?).getD 0 = 0)) = true)]
    generalize ((B2 p).filter fun b => decide (wideB cr b = true)) = W at *
    refine (comp_filt (env1 := [cH p cs, LN cr, .int (k : Nat), .lst false (W.map fun b => LN (yes b)), .hole, .hole, .hole]) (r := none) (xs := W) (fun b => LN (yes b)) (fun b => if (stays cs.length (fH p cs (yes b))).any (fun row => decide ((row[k]?).getD 0 = 0)) = true then some (LN (yes b)) else none) ?_ fun b hb => ?_).trans ?_
    · simp [ev, evs, evA, evAnd, evOr, evI, ex, exs, runF, shP, getV, getP, place, isTys, isTy, outsOf, List.range_succ, fillA, backA, hasBw, cmpD, binD, bltD, bLen, ixv, subD, wipeD, bindT, bindMany, seqD, putD, putI, backD, isLstAt, setP, cStep, fStep, Function.comp_def, hsW]
    · have h3 := c3 (.lst false (W.map fun b => LN (yes b))) b
      have he := eq_nil_gen true true (((stays cs.length (fH p cs (yes b))).filter fun row => decide ((row[k]?).getD 0 = 0)).map LN) (plainLN _)
      have e0 : (((stays cs.length (fH p cs (yes b))).filter fun row => decide ((row[k]?).getD 0 = 0)).map LN).isEmpty = !((stays cs.length (fH p cs (yes b))).any fun row => decide ((row[k]?).getD 0 = 0)) := by
        rw [List.isEmpty_map, Bool.eq_iff_iff, List.isEmpty_iff, List.filter_eq_nil_iff]
        simp [ev, evs, evA, evAnd, evOr, evI, ex, exs, runF, shP, getV, getP, place, isTys, isTy, outsOf, List.range_succ, fillA, backA, hasBw, cmpD, binD, bltD, bLen, ixv, subD, wipeD, bindT, bindMany, seqD, putD, putI, backD, isLstAt, setP, cStep, fStep, Function.comp_def]
      rw [e0] at he
      generalize (((stays cs.length (fH p cs (yes b))).filter fun row => decide ((row[k]?).getD 0 = 0)).map LN) = L at *
      cases hw : ((stays cs.length (fH p cs (yes b))).any fun row => decide ((row[k]?).getD 0 = 0)) <;> rw [hw] at he <;> simp [ev, evs, evA, evAnd, evOr, evI, ex, exs, runF, shP, getV, getP, place, isTys, isTy, outsOf, List.range_succ, fillA, backA, hasBw, cmpD, binD, bltD, bLen, ixv, subD, wipeD, bindT, bindMany, seqD, putD, putI, backD, isLstAt, setP, cStep, fStep, Function.comp_def, h3, he]
    · simp [ev, evs, evA, evAnd, evOr, evI, ex, exs, runF, shP, getV, getP, place, isTys, isTy, outsOf, List.range_succ, fillA, backA, hasBw, cmpD, binD, bltD, bLen, ixv, subD, wipeD, bindT, bindMany, seqD, putD, putI, backD, isLstAt, setP, cStep, fStep, Function.comp_def]
  have hp := plainLN ((((B2 p).filter fun b => decide (wideB cr b = true)).filter fun b => decide ((stays cs.length (fH p cs (yes b))).any (fun row => decide ((row[k]?).getD 0 = 0)) = true)).map yes)
  rw [List.map_map] at hp
  have he := eq_nil_gen true true _ hp
  have hB : (((((B2 p).filter fun b => decide (wideB cr b = true)).filter fun b => decide ((stays cs.length (fH p cs (yes b))).any (fun row => decide ((row[k]?).getD 0 = 0)) = true)).map (LN ∘ yes))).isEmpty = ((low p cs cr)[k]? == some 1) := by
    rw [← lawBr_eq ok oc hk, List.isEmpty_map, Bool.eq_iff_iff, List.isEmpty_iff, List.filter_eq_nil_iff, lawBr, List.all_eq_true]
    simp only [List.mem_filter, decide_eq_true_eq, Bool.not_eq_true, List.any_eq_false, List.all_eq_true, bne_iff_ne, ne_eq]
  rw [hB] at he
  show runF (evF prog (n + 6)) F._law_brings [_, _, _] = _
  change eqD (.lst true (List.map (fun b => LN (yes b)) _)) _ = _ at he
  generalize ((B2 p).filter fun b => decide (wideB cr b = true)) = W at *
  clear hB hp
  generalize (W.filter fun b => decide ((stays cs.length (fH p cs (yes b))).any (fun row => decide ((row[k]?).getD 0 = 0)) = true)) = Z at *
  simp [ev, evs, evA, evAnd, evOr, evI, ex, exs, runF, shP, getV, getP, place, isTys, isTy, outsOf, List.range_succ, fillA, backA, hasBw, cmpD, binD, bltD, bLen, ixv, subD, wipeD, bindT, bindMany, seqD, putD, putI, backD, isLstAt, setP, cStep, fStep, Function.comp_def, F._law_brings, hu, hv, c2, c4, he]
end
end K81

namespace K81
open OE PySem PySem.Spec PyProof.Rows L2

theorem fit_co {m k : Nat} {c : List Nat × List Nat} (ok : okCo m c) (hm : m ≤ 20) : fit (k + 2) (dCo c) := by
  have l6 := ok.l6
  have h64 : 2 ^ c.1.length ≤ 2 ^ 6 := Nat.pow_le_pow_right (by decide) l6
  refine .tup (by simp [ev, evs, evA, evAnd, evOr, evI, ex, exs, runF, shP, getV, getP, place, isTys, isTy, outsOf, List.range_succ, fillA, backA, hasBw, cmpD, binD, bltD, bLen, ixv, subD, wipeD, bindT, bindMany, seqD, putD, putI, backD, isLstAt, setP, cStep, fStep, Function.comp_def]) (.a1 (.nats (by omega) fun x hx => ?_) (.a1 (.nats (by rw [ok.rl]; omega) fun x hx => ?_) .a0))
  · have := ok.bd x hx; omega
  · have := ok.r1 x hx; omega
theorem fit_cH {p : Nat} {cs : List (List Nat × List Nat)} (ok : okH p cs) : fit 4 (cH p cs) := by
  have p6 := ok.p6
  have c8 := ok.c8
  refine .tup (by simp [ev, evs, evA, evAnd, evOr, evI, ex, exs, runF, shP, getV, getP, place, isTys, isTy, outsOf, List.range_succ, fillA, backA, hasBw, cmpD, binD, bltD, bLen, ixv, subD, wipeD, bindT, bindMany, seqD, putD, putI, backD, isLstAt, setP, cStep, fStep, Function.comp_def]) (.a1 (.int (by omega)) (.a1 (.lst (by simp [ev, evs, evA, evAnd, evOr, evI, ex, exs, runF, shP, getV, getP, place, isTys, isTy, outsOf, List.range_succ, fillA, backA, hasBw, cmpD, binD, bltD, bLen, ixv, subD, wipeD, bindT, bindMany, seqD, putD, putI, backD, isLstAt, setP, cStep, fStep, Function.comp_def]; omega) fun x hx => ?_) .a0))
  obtain ⟨c, hc, rfl⟩ := List.mem_map.mp hx
  exact fit_co (k := 0) (ok.co c hc) (by omega)
theorem okD_cH (k : Nat) (p : Nat) (cs : List (List Nat × List Nat)) : okD (k + 4) (cH p cs) := by
  refine okD.tup (k := k + 3) fun x hx => ?_
  simp only [List.mem_cons, List.not_mem_nil, or_false] at hx
  rcases hx with rfl | rfl
  · exact okD.int _ _
  · refine okD.lst (k := k + 2) fun x hx => ?_
    obtain ⟨c, -, rfl⟩ := List.mem_map.mp hx
    refine okD.tup (k := k + 1) fun x hx => ?_
    simp only [List.mem_cons, List.not_mem_nil, or_false] at hx
    rcases hx with rfl | rfl
    · exact okD.lst (k := k) fun x hx => by obtain ⟨i, -, rfl⟩ := List.mem_map.mp hx; exact okD.int _ _
    · exact okD.lst (k := k) fun x hx => by obtain ⟨i, -, rfl⟩ := List.mem_map.mp hx; exact okD.int _ _
theorem wt_nats (l : List Nat) : wt (LN l) ≤ 11 * l.length := by
  have := wtL_le (ds := l.map fun x : Nat => D.int (x : Nat)) (B := 10) (fun d hd => by obtain ⟨i, -, rfl⟩ := List.mem_map.mp hd; exact Nat.le_refl _)
  simpa [ev, evs, evA, evAnd, evOr, evI, ex, exs, runF, shP, getV, getP, place, isTys, isTy, outsOf, List.range_succ, fillA, backA, hasBw, cmpD, binD, bltD, bLen, ixv, subD, wipeD, bindT, bindMany, seqD, putD, putI, backD, isLstAt, setP, cStep, fStep, Function.comp_def, wt] using this
theorem wt_co {m : Nat} {c : List Nat × List Nat} (ok : okCo m c) : wt (dCo c) ≤ 1000 := by
  have l6 := ok.l6
  have h64 : 2 ^ c.1.length ≤ 2 ^ 6 := Nat.pow_le_pow_right (by decide) l6
  have h1 := wt_nats c.1
  have h2 := wt_nats c.2
  have h3 := ok.rl
  show wt (LN c.1) + 1 + (wt (LN c.2) + 1 + 0) ≤ 1000
  omega
theorem wt_cH {p : Nat} {cs : List (List Nat × List Nat)} (ok : okH p cs) : wt (cH p cs) ≤ 10000 := by
  have c8 := ok.c8
  have h1 := wtL_le (ds := cs.map dCo) (B := 1000) (fun d hd => by obtain ⟨c, hc, rfl⟩ := List.mem_map.mp hd; exact wt_co (ok.co c hc))
  rw [List.length_map] at h1
  show 10 + 1 + (wtL (cs.map dCo) + 1 + 0) ≤ 10000
  omega
section
variable {p : Nat} {cs : List (List Nat × List Nat)} {cr : List Nat}
theorem repr_pair (ok : okH p cs) (oc : okCr p cr) : ∃ s, repD (.lst true [cH p cs, LN cr]) = some (.str s) ∧ eqD (.str s) (.str s) = some true := by
  have p6 := ok.p6
  have cl := oc.len
  have hf : fit 5 (.lst true [cH p cs, LN cr]) := .lst (by simp [ev, evs, evA, evAnd, evOr, evI, ex, exs, runF, shP, getV, getP, place, isTys, isTy, outsOf, List.range_succ, fillA, backA, hasBw, cmpD, binD, bltD, bLen, ixv, subD, wipeD, bindT, bindMany, seqD, putD, putI, backD, isLstAt, setP, cStep, fStep, Function.comp_def]) (.a1 (fit_cH ok) (.a1 (.nats (by omega) fun x hx => by have := oc.bd x hx; omega) .a0))
  have hw : okD 60 (.lst true [cH p cs, LN cr]) := okD.lst (k := 59) fun x hx => by
    simp only [List.mem_cons, List.not_mem_nil, or_false] at hx
    rcases hx with rfl | rfl
    · exact okD_cH 55 p cs
    · exact okD.lst (k := 58) fun x hx => by obtain ⟨i, -, rfl⟩ := List.mem_map.mp hx; exact okD.int _ _
  have h1 := wt_cH ok
  have h2 := wt_nats cr
  exact repr_ok hf.1 rfl hw.2 (by
    show wt (cH p cs) + 1 + (wt (LN cr) + 1 + 0) ≤ 1000000
    omega)
theorem call2 {Γ : Fns} {ios : List Nat} {A B : E} {f : Nat} {env env1 env2 : List D} {a b r h1 h2 : D} (e1 : ev Γ ios A env = some (a, env1)) (e2 : ev Γ ios B env1 = some (b, env2)) (e3 : Γ f [a, b] = some (r, [h1, h2])) : ev Γ ios (.call f (.ex A (.ex B .nil))) env = some (r, env2) := by
  simp [ev, evs, evA, evAnd, evOr, evI, ex, exs, runF, shP, getV, getP, place, isTys, isTy, outsOf, List.range_succ, fillA, backA, hasBw, cmpD, binD, bltD, bLen, ixv, subD, wipeD, bindT, bindMany, seqD, putD, putI, backD, isLstAt, setP, cStep, fStep, Function.comp_def, e1, e2, e3]
theorem sorted_pair {S T : List Nat} (h : S.Perm T) : ∃ ns : List Int, bSorted [.lst true (S.map fun x : Nat => D.int (x : Nat))] = some (.lst true (ns.map D.int)) ∧ bSorted [.lst false (T.map fun x : Nat => D.int (x : Nat))] = some (.lst true (ns.map D.int)) := by
  have e := chain_sorted h
  have e2 : (T.map fun x : Nat => D.int (x : Nat)) = (T.map fun x : Nat => (x : Int)).map D.int := by rw [List.map_map]; rfl
  rw [e, e2]
  simp only [bSorted, allInts_map, Option.map_some]
  exact ⟨_, rfl, rfl⟩
theorem okV_share {d : D} (h : okV d) : okV (share d) := by unfold okV; rw [share_share]; exact h
theorem okV_ne {d : D} (h : okV d) : d ≠ .hole := by
  rintro rfl
  rcases h with (h | ⟨i, h⟩ | ⟨l, h⟩) | ⟨xs, h, -⟩ <;> simp [ev, evs, evA, evAnd, evOr, evI, ex, exs, runF, shP, getV, getP, place, isTys, isTy, outsOf, List.range_succ, fillA, backA, hasBw, cmpD, binD, bltD, bLen, ixv, subD, wipeD, bindT, bindMany, seqD, putD, putI, backD, isLstAt, setP, cStep, fStep, Function.comp_def, share] at h
theorem cr_l1 (n : Nat) (g x3 x4 x6 : D) (T : List Nat) (hu : okH p cs) (oc : okCr p cr) (ds : List D) (hds : ∀ d ∈ ds, okV d) : ∀ x7 : D, ∃ y7, loopF (fStep (evF prog (n + 7)) [0] none (.nm 7) F._law_chains_right.b1) ds [g, cH p cs, LN cr, x3, x4, LN T, x6, x7, .hole] = some (.nx [g, cH p cs, LN cr, x3, x4, LN T, x6, y7, .hole]) := by
  induction ds with
  | nil => exact fun x7 => ⟨x7, rfl⟩
  | cons d ds ih =>
    intro x7
    have hd := hds d List.mem_cons_self
    obtain ⟨b, j1, j2⟩ := judged n (u := cH p cs) (v := LN cr) (w := share d) (share_cH _ _) (share_LN _ _) hu oc (okV_share hd)
    have hsm := same_ok (n + 6) 0 (a := .bl b) (b := .bl b) rfl (fit.bl 0 b)
    have hne := okV_ne hd
    have hg : getV [g, cH p cs, LN cr, x3, x4, LN T, x6, d, .hole] 7 = some d := by cases d <;> first | exact absurd rfl hne | rfl
    have hne2 := okV_ne (okV_share hd)
    have hg2 : getV [g, cH p cs, LN cr, x3, x4, LN T, x6, share d, .hole] 7 = some (share d) := by
      show (match some (share d) with | some .hole => none | r => r) = _
      generalize share d = e at *
      cases e <;> first | exact absurd rfl hne2 | rfl
    obtain ⟨y7, e⟩ := ih (fun x hx => hds x (List.mem_cons_of_mem _ hx)) (share d)
    refine ⟨y7, ?_⟩
    have hst : fStep (evF prog (n + 7)) [0] none (.nm 7) F._law_chains_right.b1 [g, cH p cs, LN cr, x3, x4, LN T, x6, x7, .hole] d = some (.nx [g, cH p cs, LN cr, x3, x4, LN T, x6, share d, .hole]) := by
      show exs (evF prog (n + 7)) [0] F._law_chains_right.b1 [g, cH p cs, LN cr, x3, x4, LN T, x6, d, .hole] = _
      have a1 : ev (evF prog (n + 7)) [0] (.sh 7) [g, cH p cs, LN cr, x3, x4, LN T, x6, d, .hole] = some (share d, [g, cH p cs, LN cr, x3, x4, LN T, x6, share d, .hole]) := by simp only [ev, hg, Option.map_some, List.set]
      have a2 : ev (evF prog (n + 7)) [0] (.sh 7) [g, cH p cs, LN cr, x3, x4, LN T, x6, share d, .hole] = some (share d, [g, cH p cs, LN cr, x3, x4, LN T, x6, share d, .hole]) := by simp only [ev, hg2, Option.map_some, share_share, List.set]
      have q1 : ev (evF prog (n + 7)) [0] (.call 24 (.ex (.sh 1) (.ex (.sh 2) (.ex (.sh 7) .nil)))) [g, cH p cs, LN cr, x3, x4, LN T, x6, d, .hole] = some (.bl b, [g, cH p cs, LN cr, x3, x4, LN T, x6, share d, .hole]) := by
        rw [ev]
        simp only [evA, a1, show ev (evF prog (n + 7)) [0] (.sh 1) [g, cH p cs, LN cr, x3, x4, LN T, x6, d, .hole] = some (cH p cs, [g, cH p cs, LN cr, x3, x4, LN T, x6, d, .hole]) by simp [ev, evs, evA, evAnd, evOr, evI, ex, exs, runF, shP, getV, getP, place, isTys, isTy, outsOf, List.range_succ, fillA, backA, hasBw, cmpD, binD, bltD, bLen, ixv, subD, wipeD, bindT, bindMany, seqD, putD, putI, backD, isLstAt, setP, cStep, fStep, Function.comp_def], show ev (evF prog (n + 7)) [0] (.sh 2) [g, cH p cs, LN cr, x3, x4, LN T, x6, d, .hole] = some (LN cr, [g, cH p cs, LN cr, x3, x4, LN T, x6, d, .hole]) by simp [ev, evs, evA, evAnd, evOr, evI, ex, exs, runF, shP, getV, getP, place, isTys, isTy, outsOf, List.range_succ, fillA, backA, hasBw, cmpD, binD, bltD, bLen, ixv, subD, wipeD, bindT, bindMany, seqD, putD, putI, backD, isLstAt, setP, cStep, fStep, Function.comp_def], Option.bind_some, Option.map_some, fillA, j1]
        simp [ev, evs, evA, evAnd, evOr, evI, ex, exs, runF, shP, getV, getP, place, isTys, isTy, outsOf, List.range_succ, fillA, backA, hasBw, cmpD, binD, bltD, bLen, ixv, subD, wipeD, bindT, bindMany, seqD, putD, putI, backD, isLstAt, setP, cStep, fStep, Function.comp_def]
      have q2 : ev (evF prog (n + 7)) [0] (.call 43 (.ex (.sh 1) (.ex (.sh 2) (.ex (.sh 7) .nil)))) [g, cH p cs, LN cr, x3, x4, LN T, x6, share d, .hole] = some (.bl b, [g, cH p cs, LN cr, x3, x4, LN T, x6, share d, .hole]) := by
        rw [ev]
        simp only [evA, a2, show ev (evF prog (n + 7)) [0] (.sh 1) [g, cH p cs, LN cr, x3, x4, LN T, x6, share d, .hole] = some (cH p cs, [g, cH p cs, LN cr, x3, x4, LN T, x6, share d, .hole]) by simp [ev, evs, evA, evAnd, evOr, evI, ex, exs, runF, shP, getV, getP, place, isTys, isTy, outsOf, List.range_succ, fillA, backA, hasBw, cmpD, binD, bltD, bLen, ixv, subD, wipeD, bindT, bindMany, seqD, putD, putI, backD, isLstAt, setP, cStep, fStep, Function.comp_def], show ev (evF prog (n + 7)) [0] (.sh 2) [g, cH p cs, LN cr, x3, x4, LN T, x6, share d, .hole] = some (LN cr, [g, cH p cs, LN cr, x3, x4, LN T, x6, share d, .hole]) by simp [ev, evs, evA, evAnd, evOr, evI, ex, exs, runF, shP, getV, getP, place, isTys, isTy, outsOf, List.range_succ, fillA, backA, hasBw, cmpD, binD, bltD, bLen, ixv, subD, wipeD, bindT, bindMany, seqD, putD, putI, backD, isLstAt, setP, cStep, fStep, Function.comp_def], Option.bind_some, Option.map_some, fillA, j2]
        simp [ev, evs, evA, evAnd, evOr, evI, ex, exs, runF, shP, getV, getP, place, isTys, isTy, outsOf, List.range_succ, fillA, backA, hasBw, cmpD, binD, bltD, bLen, ixv, subD, wipeD, bindT, bindMany, seqD, putD, putI, backD, isLstAt, setP, cStep, fStep, Function.comp_def]
      have hsm' : evF prog (n + 7) 32 [.bl b, .bl b] = _ := hsm
      have q3 := call2 q1 q2 hsm'
      simp only [F._law_chains_right.b1, exs, ex]
      rw [ev, q3]
      rfl
    simp only [loopF, hst]
    exact e
end
end K81

namespace K81
open OE PySem PySem.Spec PyProof.Rows L2

section
variable {p : Nat} {cs : List (List Nat × List Nat)} {cr : List Nat}
theorem chains_right (n : Nat) {N : Nat} {g u v : D} (hg : Gen N g) (hN : N ≤ 700000000) (hu : share u = cH p cs) (hv : share v = LN cr) (ok : okH p cs) (oc : okCr p cr) : ∃ g', Gen (N + 10000) g' ∧ evF prog (n + 8) 46 [g, u, v] = some (.bl true, [g', .hole, .hole]) := by
  have c8 := ok.c8
  have c11 := ok.c1
  obtain ⟨s, hr, hs⟩ := repr_pair ok oc
  obtain ⟨S, pS, cS, eS⟩ := chain_ok n (u := cH p cs) (v := LN cr) (share_cH _ _) (share_LN _ _) ok oc
  obtain ⟨g1, T, pT, cT, hg1, eT⟩ := drawn_chain n (u := cH p cs) (v := LN cr) hg (by omega) (share_cH _ _) (share_LN _ _) ok
  have perm := chain_perm ok pS cS pT cT
  obtain ⟨ns, so1, so2⟩ := sorted_pair perm
  have lS := pre_len ok pS
  have lT := pre_len ok pT
  have bS : ∀ x ∈ S, x < cs.length := fun x hx => (pre_mem ok pS hx).1
  have bT : ∀ x ∈ T, x < cs.length := fun x hx => (pre_mem ok pT hx).1
  have kS : chB p cs cr S = true := chB_iff.mpr ⟨pS, cS⟩
  have kT : chB p cs cr T = true := chB_iff.mpr ⟨pT, cT⟩
  have lw : ∀ o, evF prog (n + 7) 43 [cH p cs, LN cr, .lst o (S.map fun x : Nat => D.int (x : Nat))] = some (.bl true, [.hole, .hole, .hole]) := fun o => by
    have := lawchain_good n (u := cH p cs) (v := LN cr) (w := .lst o (S.map fun x : Nat => D.int (x : Nat))) (cr := cr) (S := S) (share_cH _ _) (share_LN _ _) (share_LN _ _) ok bS (by omega)
    rwa [kS] at this
  have ic : evF prog (n + 7) 24 [cH p cs, LN cr, LN S] = some (.bl true, [.hole, .hole, .hole]) := by
    have := ischain_good n (u := cH p cs) (v := LN cr) (w := LN S) (cr := cr) (S := S) (share_cH _ _) (share_LN _ _) (share_LN _ _) ok oc bS (by omega)
    rwa [kS] at this
  have icT : evF prog (n + 7) 24 [cH p cs, LN cr, LN T] = some (.bl true, [.hole, .hole, .hole]) := by
    have := ischain_good n (u := cH p cs) (v := LN cr) (w := LN T) (cr := cr) (S := T) (share_cH _ _) (share_LN _ _) (share_LN _ _) ok oc bT (by omega)
    rwa [kT] at this
  obtain ⟨ds, g2, hds, hg2, eD⟩ := changed_ok (n + 3) (v := LN T) (S := T) (c := cs.length) hg1 (by omega) (share_LN _ _) (by omega) c11 c8
  obtain ⟨a, b, c, rfl, _⟩ := id hg
  obtain ⟨a1, b1, c1, rfl, _⟩ := id hg1
  obtain ⟨a2, b2, c2, rfl, _⟩ := id hg2
  have hS1 : S.length < lim := lt_lim (by omega)
  have lm : ∀ q : Nat, q ≤ 10 → q ≤ lim := fun q hq => le_lim (by omega)
  obtain ⟨y7, e7⟩ := cr_l1 n (G a2 b2 c2) (.str s) (ON S) (.int (cs.length : Nat)) T ok oc ds hds .hole
  have hit : evI (evF prog (n + 7)) [0] (.e (.call 45 (.io 0 (.ex (.sh 5) (.ex (.sh 6) .nil))))) [G a1 b1 c1, cH p cs, LN cr, .str s, ON S, LN T, .int (cs.length : Nat), .hole, .hole] = some (ds, [G a2 b2 c2, cH p cs, LN cr, .str s, ON S, LN T, .int (cs.length : Nat), .hole, .hole], none) := by
    simp [ev, evs, evA, evAnd, evOr, evI, ex, exs, runF, shP, getV, getP, place, isTys, isTy, outsOf, List.range_succ, fillA, backA, hasBw, cmpD, binD, bltD, bLen, ixv, subD, wipeD, bindT, bindMany, seqD, putD, putI, backD, isLstAt, setP, cStep, fStep, Function.comp_def, eD]
  have l1 : ex (evF prog (n + 7)) [0] F._law_chains_right.l1 [G a1 b1 c1, cH p cs, LN cr, .str s, ON S, LN T, .int (cs.length : Nat), .hole, .hole] = some (.nx [G a2 b2 c2, cH p cs, LN cr, .str s, ON S, LN T, .int (cs.length : Nat), y7, .hole]) := ex_for2 hit e7
  obtain ⟨env', e8, y8, rfl⟩ := for_rel (Γ := evF prog (n + 7)) (ios := [0]) (tg := .nm 8) (body := F._law_chains_right.b2) (it := .rng1 (.sh 6)) (env := [G a2 b2 c2, cH p cs, LN cr, .str s, ON (S ++ [7]), LN T, .int (cs.length : Nat), y7, .hole]) (env1 := [G a2 b2 c2, cH p cs, LN cr, .str s, ON (S ++ [7]), LN T, .int (cs.length : Nat), y7, .hole]) (r := none) (xs := List.range cs.length) (fun i : Nat => D.int (i : Nat))
    (fun j env => ∃ y8, env = [G a2 b2 c2, cH p cs, LN cr, .str s, ON (S ++ [7]), LN T, .int (cs.length : Nat), y7, y8]) (by simp [ev, evs, evA, evAnd, evOr, evI, ex, exs, runF, shP, getV, getP, place, isTys, isTy, outsOf, List.range_succ, fillA, backA, hasBw, cmpD, binD, bltD, bLen, ixv, subD, wipeD, bindT, bindMany, seqD, putD, putI, backD, isLstAt, setP, cStep, fStep, Function.comp_def, rngs_zero cs.length (by omega)]) ⟨.hole, rfl⟩ (by
      rintro j env k hk ⟨y8, rfl⟩
      have hkc : k < cs.length := List.mem_range.mp (List.mem_of_getElem? hk)
      have hb := brings_ok n (u := cH p cs) (v := LN cr) (share_cH p cs) (share_LN _ _) ok oc hkc
      have hm := any_cast k T
      have hcm := chain_mem ok pT cT (x := k)
      have hl := low_len ok cr
      have kl : k < (low p cs cr).length := by rw [hl.1]; exact hkc
      have hd : decide (k ∈ T) = ((low p cs cr)[k]? == some 1) := by
        rw [Bool.eq_iff_iff, decide_eq_true_iff, hcm, beq_iff_eq, List.getElem?_eq_getElem kl]
        simp [ev, evs, evA, evAnd, evOr, evI, ex, exs, runF, shP, getV, getP, place, isTys, isTy, outsOf, List.range_succ, fillA, backA, hasBw, cmpD, binD, bltD, bLen, ixv, subD, wipeD, bindT, bindMany, seqD, putD, putI, backD, isLstAt, setP, cStep, fStep, Function.comp_def, hkc]
      rw [hd] at hm
      have hsm := same_ok (n + 6) 0 (a := .bl ((low p cs cr)[k]? == some 1)) (b := .bl ((low p cs cr)[k]? == some 1)) rfl (fit.bl 0 _)
      generalize ((low p cs cr)[k]? == some 1) = B at *
      exact ⟨[G a2 b2 c2, cH p cs, LN cr, .str s, ON (S ++ [7]), LN T, .int (cs.length : Nat), y7, .int (k : Nat)], by simp [ev, evs, evA, evAnd, evOr, evI, ex, exs, runF, shP, getV, getP, place, isTys, isTy, outsOf, List.range_succ, fillA, backA, hasBw, cmpD, binD, bltD, bLen, ixv, subD, wipeD, bindT, bindMany, seqD, putD, putI, backD, isLstAt, setP, cStep, fStep, Function.comp_def, F._law_chains_right.b2, hb, hm, hsm], _, rfl⟩)
  have l2 : ex (evF prog (n + 7)) [0] F._law_chains_right.l2 [G a2 b2 c2, cH p cs, LN cr, .str s, ON (S ++ [7]), LN T, .int (cs.length : Nat), y7, .hole] = _ := e8
  refine ⟨G a2 b2 c2, hg2.mono (by omega), ?_⟩
  have eqns := eqD_ints true true ns ns
  have clS := closed_ON S
  show runF (evF prog (n + 7)) F._law_chains_right [_, _, _] = _
  rw [F._law_chains_right, runF_of (env := [G a b c, cH p cs, LN cr, .hole, .hole, .hole, .hole, .hole, .hole]) (by rfl) (by simp [ev, evs, evA, evAnd, evOr, evI, ex, exs, runF, shP, getV, getP, place, isTys, isTy, outsOf, List.range_succ, fillA, backA, hasBw, cmpD, binD, bltD, bLen, ixv, subD, wipeD, bindT, bindMany, seqD, putD, putI, backD, isLstAt, setP, cStep, fStep, Function.comp_def, hu, hv]) (show _ = some (Fl.rt (.bl true) [G a2 b2 c2, cH p cs, LN cr, .hole, ON (S ++ [7]), LN T, .int (cs.length : Nat), y7, y8]) from ?_)]
  · simp [ev, evs, evA, evAnd, evOr, evI, ex, exs, runF, shP, getV, getP, place, isTys, isTy, outsOf, List.range_succ, fillA, backA, hasBw, cmpD, binD, bltD, bLen, ixv, subD, wipeD, bindT, bindMany, seqD, putD, putI, backD, isLstAt, setP, cStep, fStep, Function.comp_def]
  · simp only [ON] at so1 eS eT clS
    rw [exs_nx (env' := [G a b c, cH p cs, LN cr, .str s, ON S, .hole, .hole, .hole, .hole]) (by simp [ev, evs, evA, evAnd, evOr, evI, ex, exs, runF, shP, getV, getP, place, isTys, isTy, outsOf, List.range_succ, fillA, backA, hasBw, cmpD, binD, bltD, bLen, ixv, subD, wipeD, bindT, bindMany, seqD, putD, putI, backD, isLstAt, setP, cStep, fStep, Function.comp_def, lm, bRepr, hr, eS])]
    rw [exs_nx (env' := [G a1 b1 c1, cH p cs, LN cr, .str s, ON S, ON T, .int (cs.length : Nat), .hole, .hole]) (by simp [ev, evs, evA, evAnd, evOr, evI, ex, exs, runF, shP, getV, getP, place, isTys, isTy, outsOf, List.range_succ, fillA, backA, hasBw, cmpD, binD, bltD, bLen, ixv, subD, wipeD, bindT, bindMany, seqD, putD, putI, backD, isLstAt, setP, cStep, fStep, Function.comp_def, eT])]
    rw [exs_nx (env' := [G a1 b1 c1, cH p cs, LN cr, .str s, ON S, LN T, .int (cs.length : Nat), .hole, .hole]) (by
      simp [ev, evs, evA, evAnd, evOr, evI, ex, exs, runF, shP, getV, getP, place, isTys, isTy, outsOf, List.range_succ, fillA, backA, hasBw, cmpD, binD, bltD, bLen, ixv, subD, wipeD, bindT, bindMany, seqD, putD, putI, backD, isLstAt, setP, cStep, fStep, Function.comp_def, lw, closed, iosOf, so1, so2, eqns])]
    rw [exs_nx (env' := [G a1 b1 c1, cH p cs, LN cr, .str s, ON S, LN T, .int (cs.length : Nat), .hole, .hole]) (by
      simp [ev, evs, evA, evAnd, evOr, evI, ex, exs, runF, shP, getV, getP, place, isTys, isTy, outsOf, List.range_succ, fillA, backA, hasBw, cmpD, binD, bltD, bLen, ixv, subD, wipeD, bindT, bindMany, seqD, putD, putI, backD, isLstAt, setP, cStep, fStep, Function.comp_def, ic, icT, closed, iosOf, permD])]
    rw [exs_nx l1]
    rw [exs_nx (env' := [G a2 b2 c2, cH p cs, LN cr, .str s, ON (S ++ [7]), LN T, .int (cs.length : Nat), y7, .hole]) (by simp [ev, evs, evA, evAnd, evOr, evI, ex, exs, runF, shP, getV, getP, place, isTys, isTy, outsOf, List.range_succ, fillA, backA, hasBw, cmpD, binD, bltD, bLen, ixv, subD, wipeD, bindT, bindMany, seqD, putD, putI, backD, isLstAt, setP, cStep, fStep, Function.comp_def, hS1])]
    rw [exs_nx (env' := [G a2 b2 c2, cH p cs, LN cr, .str s, ON (S ++ [7]), LN T, .int (cs.length : Nat), y7, .hole]) (by simp [ev, evs, evA, evAnd, evOr, evI, ex, exs, runF, shP, getV, getP, place, isTys, isTy, outsOf, List.range_succ, fillA, backA, hasBw, cmpD, binD, bltD, bLen, ixv, subD, wipeD, bindT, bindMany, seqD, putD, putI, backD, isLstAt, setP, cStep, fStep, Function.comp_def, permD, eS, lw])]
    rw [exs_nx l2]
    simp [ev, evs, evA, evAnd, evOr, evI, ex, exs, runF, shP, getV, getP, place, isTys, isTy, outsOf, List.range_succ, fillA, backA, hasBw, cmpD, binD, bltD, bLen, ixv, subD, wipeD, bindT, bindMany, seqD, putD, putI, backD, isLstAt, setP, cStep, fStep, Function.comp_def, lm, bRepr, hr, hs]
end
end K81

namespace K81
open OE PySem PySem.Spec PyProof.Rows L2

theorem mono_and : Mono 2 [0, 0, 0, 1] := mono_dec (by decide)
theorem mono_or : Mono 2 [0, 1, 1, 1] := mono_dec (by decide)
theorem co_two {m a b : Nat} {r : List Nat} (h : a < b) (hb : b < m) (hr : r = [0, 0, 0, 1] ∨ r = [0, 1, 1, 1]) : okCo m ([a, b], r) := by
  refine ⟨by simp [ev, evs, evA, evAnd, evOr, evI, ex, exs, runF, shP, getV, getP, place, isTys, isTy, outsOf, List.range_succ, fillA, backA, hasBw, cmpD, binD, bltD, bLen, ixv, subD, wipeD, bindT, bindMany, seqD, putD, putI, backD, isLstAt, setP, cStep, fStep, Function.comp_def, h], by simp [ev, evs, evA, evAnd, evOr, evI, ex, exs, runF, shP, getV, getP, place, isTys, isTy, outsOf, List.range_succ, fillA, backA, hasBw, cmpD, binD, bltD, bLen, ixv, subD, wipeD, bindT, bindMany, seqD, putD, putI, backD, isLstAt, setP, cStep, fStep, Function.comp_def]; omega, by simp [ev, evs, evA, evAnd, evOr, evI, ex, exs, runF, shP, getV, getP, place, isTys, isTy, outsOf, List.range_succ, fillA, backA, hasBw, cmpD, binD, bltD, bLen, ixv, subD, wipeD, bindT, bindMany, seqD, putD, putI, backD, isLstAt, setP, cStep, fStep, Function.comp_def], by simp [ev, evs, evA, evAnd, evOr, evI, ex, exs, runF, shP, getV, getP, place, isTys, isTy, outsOf, List.range_succ, fillA, backA, hasBw, cmpD, binD, bltD, bLen, ixv, subD, wipeD, bindT, bindMany, seqD, putD, putI, backD, isLstAt, setP, cStep, fStep, Function.comp_def], ?_, ?_, ?_⟩
  · rcases hr with rfl | rfl <;> rfl
  · rcases hr with rfl | rfl <;> simp [ev, evs, evA, evAnd, evOr, evI, ex, exs, runF, shP, getV, getP, place, isTys, isTy, outsOf, List.range_succ, fillA, backA, hasBw, cmpD, binD, bltD, bLen, ixv, subD, wipeD, bindT, bindMany, seqD, putD, putI, backD, isLstAt, setP, cStep, fStep, Function.comp_def]
  · rcases hr with rfl | rfl
    · exact mono_and
    · exact mono_or
abbrev ringC : List (List Nat × List Nat) := [([0, 1, 3], [0, 0, 0, 1, 0, 1, 1, 1]), ([2, 3], [0, 0, 0, 1])]
theorem mono_ring : Mono 3 [0, 0, 0, 1, 0, 1, 1, 1] := mono_dec (by decide)
theorem mono_self : Mono 1 [0, 1] := mono_dec (by decide)
theorem ring_okH : okH 2 ringC := ⟨by omega, by omega, by simp [ev, evs, evA, evAnd, evOr, evI, ex, exs, runF, shP, getV, getP, place, isTys, isTy, outsOf, List.range_succ, fillA, backA, hasBw, cmpD, binD, bltD, bLen, ixv, subD, wipeD, bindT, bindMany, seqD, putD, putI, backD, isLstAt, setP, cStep, fStep, Function.comp_def], by simp [ev, evs, evA, evAnd, evOr, evI, ex, exs, runF, shP, getV, getP, place, isTys, isTy, outsOf, List.range_succ, fillA, backA, hasBw, cmpD, binD, bltD, bLen, ixv, subD, wipeD, bindT, bindMany, seqD, putD, putI, backD, isLstAt, setP, cStep, fStep, Function.comp_def], fun c hc => by
  simp only [List.mem_cons, List.not_mem_nil, or_false] at hc
  rcases hc with rfl | rfl
  · exact ⟨by decide, by decide, by decide, by decide, by decide, by decide, mono_ring⟩
  · exact co_two (by omega) (by simp [ev, evs, evA, evAnd, evOr, evI, ex, exs, runF, shP, getV, getP, place, isTys, isTy, outsOf, List.range_succ, fillA, backA, hasBw, cmpD, binD, bltD, bLen, ixv, subD, wipeD, bindT, bindMany, seqD, putD, putI, backD, isLstAt, setP, cStep, fStep, Function.comp_def]) (.inl rfl)⟩
theorem mono_one : Mono 1 [1, 1] := mono_dec (by decide)
theorem one1_okH : okH 1 [([0], [1, 1])] := ⟨by omega, by omega, by simp [ev, evs, evA, evAnd, evOr, evI, ex, exs, runF, shP, getV, getP, place, isTys, isTy, outsOf, List.range_succ, fillA, backA, hasBw, cmpD, binD, bltD, bLen, ixv, subD, wipeD, bindT, bindMany, seqD, putD, putI, backD, isLstAt, setP, cStep, fStep, Function.comp_def], by simp [ev, evs, evA, evAnd, evOr, evI, ex, exs, runF, shP, getV, getP, place, isTys, isTy, outsOf, List.range_succ, fillA, backA, hasBw, cmpD, binD, bltD, bLen, ixv, subD, wipeD, bindT, bindMany, seqD, putD, putI, backD, isLstAt, setP, cStep, fStep, Function.comp_def], fun c hc => by
  simp only [List.mem_cons, List.not_mem_nil, or_false] at hc
  subst hc
  exact ⟨by simp [ev, evs, evA, evAnd, evOr, evI, ex, exs, runF, shP, getV, getP, place, isTys, isTy, outsOf, List.range_succ, fillA, backA, hasBw, cmpD, binD, bltD, bLen, ixv, subD, wipeD, bindT, bindMany, seqD, putD, putI, backD, isLstAt, setP, cStep, fStep, Function.comp_def], by simp [ev, evs, evA, evAnd, evOr, evI, ex, exs, runF, shP, getV, getP, place, isTys, isTy, outsOf, List.range_succ, fillA, backA, hasBw, cmpD, binD, bltD, bLen, ixv, subD, wipeD, bindT, bindMany, seqD, putD, putI, backD, isLstAt, setP, cStep, fStep, Function.comp_def], by simp [ev, evs, evA, evAnd, evOr, evI, ex, exs, runF, shP, getV, getP, place, isTys, isTy, outsOf, List.range_succ, fillA, backA, hasBw, cmpD, binD, bltD, bLen, ixv, subD, wipeD, bindT, bindMany, seqD, putD, putI, backD, isLstAt, setP, cStep, fStep, Function.comp_def], by simp [ev, evs, evA, evAnd, evOr, evI, ex, exs, runF, shP, getV, getP, place, isTys, isTy, outsOf, List.range_succ, fillA, backA, hasBw, cmpD, binD, bltD, bLen, ixv, subD, wipeD, bindT, bindMany, seqD, putD, putI, backD, isLstAt, setP, cStep, fStep, Function.comp_def], rfl, by simp [ev, evs, evA, evAnd, evOr, evI, ex, exs, runF, shP, getV, getP, place, isTys, isTy, outsOf, List.range_succ, fillA, backA, hasBw, cmpD, binD, bltD, bLen, ixv, subD, wipeD, bindT, bindMany, seqD, putD, putI, backD, isLstAt, setP, cStep, fStep, Function.comp_def], mono_one⟩⟩
theorem share_form {r : D} {p : Nat} {cs : List (List Nat × List Nat)} (h : share r = cH p cs) : ∃ q, r = .tup [.int (p : Nat), q] ∧ share q = dCos cs := by
  cases r with
  | tup l =>
    match l, h with
    | [], h => simp [ev, evs, evA, evAnd, evOr, evI, ex, exs, runF, shP, getV, getP, place, isTys, isTy, outsOf, List.range_succ, fillA, backA, hasBw, cmpD, binD, bltD, bLen, ixv, subD, wipeD, bindT, bindMany, seqD, putD, putI, backD, isLstAt, setP, cStep, fStep, Function.comp_def, share, share.shareL] at h
    | [a], h => simp [ev, evs, evA, evAnd, evOr, evI, ex, exs, runF, shP, getV, getP, place, isTys, isTy, outsOf, List.range_succ, fillA, backA, hasBw, cmpD, binD, bltD, bLen, ixv, subD, wipeD, bindT, bindMany, seqD, putD, putI, backD, isLstAt, setP, cStep, fStep, Function.comp_def, share, share.shareL] at h
    | [a, b], h =>
      simp only [share, share.shareL, D.tup.injEq, List.cons.injEq, and_true] at h
      refine ⟨b, ?_, h.2⟩
      have : a = .int (p : Nat) := by
        have h1 := h.1
        cases a <;> simp [ev, evs, evA, evAnd, evOr, evI, ex, exs, runF, shP, getV, getP, place, isTys, isTy, outsOf, List.range_succ, fillA, backA, hasBw, cmpD, binD, bltD, bLen, ixv, subD, wipeD, bindT, bindMany, seqD, putD, putI, backD, isLstAt, setP, cStep, fStep, Function.comp_def, share] at h1 ⊢; exact h1
      rw [this]
    | a :: b :: c :: l, h => simp [ev, evs, evA, evAnd, evOr, evI, ex, exs, runF, shP, getV, getP, place, isTys, isTy, outsOf, List.range_succ, fillA, backA, hasBw, cmpD, binD, bltD, bLen, ixv, subD, wipeD, bindT, bindMany, seqD, putD, putI, backD, isLstAt, setP, cStep, fStep, Function.comp_def, share, share.shareL] at h
  | _ => simp [ev, evs, evA, evAnd, evOr, evI, ex, exs, runF, shP, getV, getP, place, isTys, isTy, outsOf, List.range_succ, fillA, backA, hasBw, cmpD, binD, bltD, bLen, ixv, subD, wipeD, bindT, bindMany, seqD, putD, putI, backD, isLstAt, setP, cStep, fStep, Function.comp_def, share] at h
theorem chain_val (n : Nat) {u v : D} {p : Nat} {cs : List (List Nat × List Nat)} {cr L : List Nat} (hu : share u = cH p cs) (hv : share v = LN cr) (ok : okH p cs) (oc : okCr p cr) (nd : L.Nodup) (hL : ∀ x, x ∈ L ↔ x < cs.length ∧ ((low p cs cr)[x]?).getD 0 = 1) : ∃ S, S.Perm L ∧ evF prog (n + 7) 23 [u, v] = some (ON S, [.hole, .hole]) := by
  obtain ⟨S, h1, h2, e⟩ := chain_ok n hu hv ok oc
  exact ⟨S, (List.perm_ext_iff_of_nodup h1.nodup nd).mpr fun a => by rw [chain_mem ok h1 h2, hL a], e⟩
theorem lowr01 : low 2 ringC [0, 1] = [1, 0] := by decide
theorem lowr0 : low 2 ringC [0] = [0, 0] := by decide
theorem lowr1 : low 2 ringC [1] = [0, 0] := by decide
theorem low1 : low 1 [([0], [1, 1])] [] = [1] := by decide
theorem cr0 : okCr 2 [0] := ⟨by simp [ev, evs, evA, evAnd, evOr, evI, ex, exs, runF, shP, getV, getP, place, isTys, isTy, outsOf, List.range_succ, fillA, backA, hasBw, cmpD, binD, bltD, bLen, ixv, subD, wipeD, bindT, bindMany, seqD, putD, putI, backD, isLstAt, setP, cStep, fStep, Function.comp_def], by simp [ev, evs, evA, evAnd, evOr, evI, ex, exs, runF, shP, getV, getP, place, isTys, isTy, outsOf, List.range_succ, fillA, backA, hasBw, cmpD, binD, bltD, bLen, ixv, subD, wipeD, bindT, bindMany, seqD, putD, putI, backD, isLstAt, setP, cStep, fStep, Function.comp_def]⟩
theorem cr1 : okCr 2 [1] := ⟨by simp [ev, evs, evA, evAnd, evOr, evI, ex, exs, runF, shP, getV, getP, place, isTys, isTy, outsOf, List.range_succ, fillA, backA, hasBw, cmpD, binD, bltD, bLen, ixv, subD, wipeD, bindT, bindMany, seqD, putD, putI, backD, isLstAt, setP, cStep, fStep, Function.comp_def], by simp [ev, evs, evA, evAnd, evOr, evI, ex, exs, runF, shP, getV, getP, place, isTys, isTy, outsOf, List.range_succ, fillA, backA, hasBw, cmpD, binD, bltD, bLen, ixv, subD, wipeD, bindT, bindMany, seqD, putD, putI, backD, isLstAt, setP, cStep, fStep, Function.comp_def]⟩
theorem cr01 : okCr 2 [0, 1] := ⟨by simp [ev, evs, evA, evAnd, evOr, evI, ex, exs, runF, shP, getV, getP, place, isTys, isTy, outsOf, List.range_succ, fillA, backA, hasBw, cmpD, binD, bltD, bLen, ixv, subD, wipeD, bindT, bindMany, seqD, putD, putI, backD, isLstAt, setP, cStep, fStep, Function.comp_def], by simp [ev, evs, evA, evAnd, evOr, evI, ex, exs, runF, shP, getV, getP, place, isTys, isTy, outsOf, List.range_succ, fillA, backA, hasBw, cmpD, binD, bltD, bLen, ixv, subD, wipeD, bindT, bindMany, seqD, putD, putI, backD, isLstAt, setP, cStep, fStep, Function.comp_def]⟩
theorem crN (p : Nat) : okCr p [] := ⟨by simp [ev, evs, evA, evAnd, evOr, evI, ex, exs, runF, shP, getV, getP, place, isTys, isTy, outsOf, List.range_succ, fillA, backA, hasBw, cmpD, binD, bltD, bLen, ixv, subD, wipeD, bindT, bindMany, seqD, putD, putI, backD, isLstAt, setP, cStep, fStep, Function.comp_def], by simp [ev, evs, evA, evAnd, evOr, evI, ex, exs, runF, shP, getV, getP, place, isTys, isTy, outsOf, List.range_succ, fillA, backA, hasBw, cmpD, binD, bltD, bLen, ixv, subD, wipeD, bindT, bindMany, seqD, putD, putI, backD, isLstAt, setP, cStep, fStep, Function.comp_def]⟩
theorem crA (p : Nat) : okCr p (List.range p) := ⟨List.pairwise_lt_range, fun x hx => List.mem_range.mp hx⟩
theorem ring_chain01 (n : Nat) {u v : D} (hu : share u = cH 2 ringC) (hv : share v = LN [0, 1]) : evF prog (n + 7) 23 [u, v] = some (ON [0], [.hole, .hole]) := by
  obtain ⟨S, hp, e⟩ := chain_val n (L := [0]) hu hv ring_okH cr01 (by simp [ev, evs, evA, evAnd, evOr, evI, ex, exs, runF, shP, getV, getP, place, isTys, isTy, outsOf, List.range_succ, fillA, backA, hasBw, cmpD, binD, bltD, bLen, ixv, subD, wipeD, bindT, bindMany, seqD, putD, putI, backD, isLstAt, setP, cStep, fStep, Function.comp_def]) (fun x => by
    rw [lowr01]
    constructor
    · intro h; rw [List.mem_singleton.mp h]; simp [ev, evs, evA, evAnd, evOr, evI, ex, exs, runF, shP, getV, getP, place, isTys, isTy, outsOf, List.range_succ, fillA, backA, hasBw, cmpD, binD, bltD, bLen, ixv, subD, wipeD, bindT, bindMany, seqD, putD, putI, backD, isLstAt, setP, cStep, fStep, Function.comp_def]
    · rintro ⟨h1, h2⟩
      match x, h1, h2 with
      | 0, _, _ => simp [ev, evs, evA, evAnd, evOr, evI, ex, exs, runF, shP, getV, getP, place, isTys, isTy, outsOf, List.range_succ, fillA, backA, hasBw, cmpD, binD, bltD, bLen, ixv, subD, wipeD, bindT, bindMany, seqD, putD, putI, backD, isLstAt, setP, cStep, fStep, Function.comp_def]
      | 1, _, h2 => simp [ev, evs, evA, evAnd, evOr, evI, ex, exs, runF, shP, getV, getP, place, isTys, isTy, outsOf, List.range_succ, fillA, backA, hasBw, cmpD, binD, bltD, bLen, ixv, subD, wipeD, bindT, bindMany, seqD, putD, putI, backD, isLstAt, setP, cStep, fStep, Function.comp_def] at h2
      | k + 2, h1, _ => exact absurd h1 (by show ¬ k + 2 < 2; omega))
  rw [List.perm_singleton.mp hp] at e
  exact e
theorem ring_chain1 (n : Nat) {u v : D} (hu : share u = cH 2 ringC) (hv : share v = LN [1]) : evF prog (n + 7) 23 [u, v] = some (ON [], [.hole, .hole]) := by
  obtain ⟨S, hp, e⟩ := chain_val n (L := []) hu hv ring_okH cr1 (by simp [ev, evs, evA, evAnd, evOr, evI, ex, exs, runF, shP, getV, getP, place, isTys, isTy, outsOf, List.range_succ, fillA, backA, hasBw, cmpD, binD, bltD, bLen, ixv, subD, wipeD, bindT, bindMany, seqD, putD, putI, backD, isLstAt, setP, cStep, fStep, Function.comp_def]) (fun x => by
    rw [lowr1]
    constructor
    · intro h; simp [ev, evs, evA, evAnd, evOr, evI, ex, exs, runF, shP, getV, getP, place, isTys, isTy, outsOf, List.range_succ, fillA, backA, hasBw, cmpD, binD, bltD, bLen, ixv, subD, wipeD, bindT, bindMany, seqD, putD, putI, backD, isLstAt, setP, cStep, fStep, Function.comp_def] at h
    · rintro ⟨h1, h2⟩
      match x, h1, h2 with
      | 0, _, h2 => simp [ev, evs, evA, evAnd, evOr, evI, ex, exs, runF, shP, getV, getP, place, isTys, isTy, outsOf, List.range_succ, fillA, backA, hasBw, cmpD, binD, bltD, bLen, ixv, subD, wipeD, bindT, bindMany, seqD, putD, putI, backD, isLstAt, setP, cStep, fStep, Function.comp_def] at h2
      | 1, _, h2 => simp [ev, evs, evA, evAnd, evOr, evI, ex, exs, runF, shP, getV, getP, place, isTys, isTy, outsOf, List.range_succ, fillA, backA, hasBw, cmpD, binD, bltD, bLen, ixv, subD, wipeD, bindT, bindMany, seqD, putD, putI, backD, isLstAt, setP, cStep, fStep, Function.comp_def] at h2
      | k + 2, h1, _ => exact absurd h1 (by show ¬ k + 2 < 2; omega))
  rw [hp.eq_nil] at e
  exact e
theorem one_chain (n : Nat) {u v : D} (hu : share u = cH 1 [([0], [1, 1])]) (hv : share v = LN []) : evF prog (n + 7) 23 [u, v] = some (ON [0], [.hole, .hole]) := by
  obtain ⟨S, hp, e⟩ := chain_val n (L := [0]) hu hv one1_okH (crN 1) (by simp [ev, evs, evA, evAnd, evOr, evI, ex, exs, runF, shP, getV, getP, place, isTys, isTy, outsOf, List.range_succ, fillA, backA, hasBw, cmpD, binD, bltD, bLen, ixv, subD, wipeD, bindT, bindMany, seqD, putD, putI, backD, isLstAt, setP, cStep, fStep, Function.comp_def]) (fun x => by
    rw [low1]
    constructor
    · intro h; rw [List.mem_singleton.mp h]; simp [ev, evs, evA, evAnd, evOr, evI, ex, exs, runF, shP, getV, getP, place, isTys, isTy, outsOf, List.range_succ, fillA, backA, hasBw, cmpD, binD, bltD, bLen, ixv, subD, wipeD, bindT, bindMany, seqD, putD, putI, backD, isLstAt, setP, cStep, fStep, Function.comp_def]
    · rintro ⟨h1, h2⟩
      match x, h1, h2 with
      | 0, _, _ => simp [ev, evs, evA, evAnd, evOr, evI, ex, exs, runF, shP, getV, getP, place, isTys, isTy, outsOf, List.range_succ, fillA, backA, hasBw, cmpD, binD, bltD, bLen, ixv, subD, wipeD, bindT, bindMany, seqD, putD, putI, backD, isLstAt, setP, cStep, fStep, Function.comp_def]
      | k + 1, h1, _ => simp [ev, evs, evA, evAnd, evOr, evI, ex, exs, runF, shP, getV, getP, place, isTys, isTy, outsOf, List.range_succ, fillA, backA, hasBw, cmpD, binD, bltD, bLen, ixv, subD, wipeD, bindT, bindMany, seqD, putD, putI, backD, isLstAt, setP, cStep, fStep, Function.comp_def] at h1)
  rw [List.perm_singleton.mp hp] at e
  exact e
theorem ring_is (n : Nat) {u v w : D} {S : List Nat} (hu : share u = cH 2 ringC) (hv : share v = LN [0, 1]) (hw : share w = LN S) (hS : ∀ x ∈ S, x < 2) (hl : S.length ≤ 1000) : evF prog (n + 7) 24 [u, v, w] = some (.bl (chB 2 ringC [0, 1] S), [.hole, .hole, .hole]) := ischain_good n hu hv hw ring_okH cr01 hS hl
theorem is0 : chB 2 ringC [0, 1] [0] = true := by decide
theorem is01 : chB 2 ringC [0, 1] [0, 1] = false := by decide
theorem isN : chB 2 ringC [0, 1] [] = false := by decide
end K81

namespace K81
open OE PySem PySem.Spec PyProof.Rows L2

theorem law_c1 (n : Nat) {ns : List Int} {p : Nat} {cs : List (List Nat × List Nat)} {cr : List Nat} (ok : okH p cs) (oc : okCr p cr) (g x4 : D) : ev (evF prog (n + 8)) [] F.law.c1 [.scr ns, g, cH p cs, LN cr, x4, .hole, .hole, .hole, .hole, .hole, .hole] = some (.lst true ((List.range cs.length).map fun k => .bl ((low p cs cr)[k]? == some 1)), [.scr ns, g, cH p cs, LN cr, x4, .hole, .hole, .hole, .hole, .hole, .hole]) := by
  have c8 := ok.c8
  refine (comp_map (env1 := [.scr ns, g, cH p cs, LN cr, x4, .hole, .hole, .hole, .hole, .hole, .hole]) (r := none) (xs := List.range cs.length) (fun i : Nat => D.int (i : Nat)) (fun k => .bl ((low p cs cr)[k]? == some 1)) ?_ fun k hk => ?_).trans ?_
  · simp [ev, evs, evA, evAnd, evOr, evI, ex, exs, runF, shP, getV, getP, place, isTys, isTy, outsOf, List.range_succ, fillA, backA, hasBw, cmpD, binD, bltD, bLen, ixv, subD, wipeD, bindT, bindMany, seqD, putD, putI, backD, isLstAt, setP, cStep, fStep, Function.comp_def, rngs_zero cs.length (by omega)]
  · have hb := lawbrings_ok (n + 1) (u := cH p cs) (v := LN cr) (share_cH p cs) (share_LN _ _) ok oc (List.mem_range.mp hk)
    generalize ((low p cs cr)[k]? == some 1) = B at *
    simp [ev, evs, evA, evAnd, evOr, evI, ex, exs, runF, shP, getV, getP, place, isTys, isTy, outsOf, List.range_succ, fillA, backA, hasBw, cmpD, binD, bltD, bLen, ixv, subD, wipeD, bindT, bindMany, seqD, putD, putI, backD, isLstAt, setP, cStep, fStep, Function.comp_def, hb]
  · simp [ev, evs, evA, evAnd, evOr, evI, ex, exs, runF, shP, getV, getP, place, isTys, isTy, outsOf, List.range_succ, fillA, backA, hasBw, cmpD, binD, bltD, bLen, ixv, subD, wipeD, bindT, bindMany, seqD, putD, putI, backD, isLstAt, setP, cStep, fStep, Function.comp_def]
theorem law_c2 (n : Nat) {ns : List Int} {p : Nat} {cs : List (List Nat × List Nat)} {cr : List Nat} (ok : okH p cs) (oc : okCr p cr) (g x4 x5 : D) : ev (evF prog (n + 8)) [] F.law.c2 [.scr ns, g, cH p cs, LN cr, x4, x5, .hole, .hole, .hole, .hole, .hole] = some (.lst true ((List.range cs.length).map fun k => .bl ((low p cs cr)[k]? == some 1)), [.scr ns, g, cH p cs, LN cr, x4, x5, .hole, .hole, .hole, .hole, .hole]) := by
  have c8 := ok.c8
  refine (comp_map (env1 := [.scr ns, g, cH p cs, LN cr, x4, x5, .hole, .hole, .hole, .hole, .hole]) (r := none) (xs := List.range cs.length) (fun i : Nat => D.int (i : Nat)) (fun k => .bl ((low p cs cr)[k]? == some 1)) ?_ fun k hk => ?_).trans ?_
  · simp [ev, evs, evA, evAnd, evOr, evI, ex, exs, runF, shP, getV, getP, place, isTys, isTy, outsOf, List.range_succ, fillA, backA, hasBw, cmpD, binD, bltD, bLen, ixv, subD, wipeD, bindT, bindMany, seqD, putD, putI, backD, isLstAt, setP, cStep, fStep, Function.comp_def, rngs_zero cs.length (by omega)]
  · have hb := brings_ok (n + 1) (u := cH p cs) (v := LN cr) (share_cH p cs) (share_LN _ _) ok oc (List.mem_range.mp hk)
    generalize ((low p cs cr)[k]? == some 1) = B at *
    simp [ev, evs, evA, evAnd, evOr, evI, ex, exs, runF, shP, getV, getP, place, isTys, isTy, outsOf, List.range_succ, fillA, backA, hasBw, cmpD, binD, bltD, bLen, ixv, subD, wipeD, bindT, bindMany, seqD, putD, putI, backD, isLstAt, setP, cStep, fStep, Function.comp_def, hb]
  · simp [ev, evs, evA, evAnd, evOr, evI, ex, exs, runF, shP, getV, getP, place, isTys, isTy, outsOf, List.range_succ, fillA, backA, hasBw, cmpD, binD, bltD, bLen, ixv, subD, wipeD, bindT, bindMany, seqD, putD, putI, backD, isLstAt, setP, cStep, fStep, Function.comp_def]
theorem law_b (n : Nat) {ns : List Int} {a b c x4 h it g' : D} {ga gb gc : Int} {p : Nat} {cs : List (List Nat × List Nat)} {cr lot : List Nat} (hh : share h = cH p cs) (hi : share it = LN lot) (k : evF prog (n + 8) 46 [G ga gb gc, cH p cs, LN lot] = some (.bl true, [g', .hole, .hole])) :
    fStep (evF prog (n + 8)) [] none (.nm 4) F.law.b1 [.scr ns, G ga gb gc, h, LN cr, x4, .hole, .hole, .hole, .hole, .hole, .hole] it = some (.nx [.scr ns, g', cH p cs, LN cr, LN lot, .hole, .hole, .hole, .hole, .hole, .hole]) := by
  obtain ⟨q, rfl, -⟩ := share_form hh
  cases it with
  | lst o l => simp [ev, evs, evA, evAnd, evOr, evI, ex, exs, runF, shP, getV, getP, place, isTys, isTy, outsOf, List.range_succ, fillA, backA, hasBw, cmpD, binD, bltD, bLen, ixv, subD, wipeD, bindT, bindMany, seqD, putD, putI, backD, isLstAt, setP, cStep, fStep, Function.comp_def, F.law.b1, hh, hi, k]
  | _ => simp [ev, evs, evA, evAnd, evOr, evI, ex, exs, runF, shP, getV, getP, place, isTys, isTy, outsOf, List.range_succ, fillA, backA, hasBw, cmpD, binD, bltD, bLen, ixv, subD, wipeD, bindT, bindMany, seqD, putD, putI, backD, isLstAt, setP, cStep, fStep, Function.comp_def, share] at hi
theorem law_ok (n : Nat) (ns : List Int) : ∃ outs, evF prog (n + 9) 47 [.scr ns] = some (.bl true, outs) := by
  obtain ⟨g0, hg0, e0⟩ := generator_ok (n + 6) ns 0 (by omega)
  obtain ⟨r1, g1, p1, cs1, hr1, ok1, hg1, f1⟩ := holdings_gen (n + 3) (pm := 4) (cm := 4) (hm := 4) hg0 (by omega) (by omega) (by omega) (by omega) (by omega) (by omega) (by omega)
  obtain ⟨q1, rfl, hq1⟩ := share_form hr1
  have p16 := ok1.p6
  have c18 := ok1.c8
  obtain ⟨g2, cr, oc, hg2, f2⟩ := lot_ok (n + 5) (p := p1) hg1 (by omega) (by omega)
  obtain ⟨g3, cr2, oc2, hg3, f3⟩ := lot_ok (n + 5) (p := p1) hg2 (by omega) (by omega)
  obtain ⟨g4, hg4, k1⟩ := chains_right n (u := cH p1 cs1) (v := LN cr) hg3 (by omega) (share_cH _ _) (share_LN _ _) ok1 oc
  obtain ⟨g5, hg5, k2⟩ := chains_right n (u := cH p1 cs1) (v := LN (List.range p1)) hg4 (by omega) (share_cH _ _) (share_LN _ _) ok1 (crA p1)
  obtain ⟨g6, hg6, k3⟩ := chains_right n (u := cH p1 cs1) (v := LN cr2) hg5 (by omega) (share_cH _ _) (share_LN _ _) ok1 oc2
  obtain ⟨g7, hg7, k4⟩ := chains_right n (u := cH p1 cs1) (v := LN []) hg6 (by omega) (share_cH _ _) (share_LN _ _) ok1 (crN p1)
  obtain ⟨r2, g8, p2, cs2, hr2, ok2, hg8, f4⟩ := holdings_gen (n + 3) (pm := 6) (cm := 8) (hm := 6) hg7 (by omega) (by omega) (by omega) (by omega) (by omega) (by omega) (by omega)
  obtain ⟨q2, rfl, hq2⟩ := share_form hr2
  have p26 := ok2.p6
  obtain ⟨g9, cr3, oc3, hg9, f5⟩ := lot_ok (n + 5) (p := p2) hg8 (by omega) (by omega)
  obtain ⟨g10, hg10, k5⟩ := chains_right n (u := cH p2 cs2) (v := ON cr3) hg9 (by omega) (share_cH _ _) (share_LN _ _) ok2 oc3
  have sme := same_ok (n + 6) 1 (a := .lst true ((List.range cs1.length).map fun k => .bl ((low p1 cs1 cr)[k]? == some 1))) (b := .lst false ((List.range cs1.length).map fun k => .bl ((low p1 cs1 cr)[k]? == some 1))) rfl (.lst (by simp [ev, evs, evA, evAnd, evOr, evI, ex, exs, runF, shP, getV, getP, place, isTys, isTy, outsOf, List.range_succ, fillA, backA, hasBw, cmpD, binD, bltD, bLen, ixv, subD, wipeD, bindT, bindMany, seqD, putD, putI, backD, isLstAt, setP, cStep, fStep, Function.comp_def]; omega) fun x hx => by
    obtain ⟨k, -, rfl⟩ := List.mem_map.mp hx
    exact fit.bl 0 _)
  obtain ⟨a0, b0, c0, rfl, _⟩ := id hg0
  obtain ⟨a1, b1, c1, rfl, _⟩ := id hg1
  obtain ⟨a2, b2, c2, rfl, _⟩ := id hg2
  obtain ⟨a3, b3, c3, rfl, _⟩ := id hg3
  obtain ⟨a4, b4, c4, rfl, _⟩ := id hg4
  obtain ⟨a5, b5, c5, rfl, _⟩ := id hg5
  obtain ⟨a6, b6, c6, rfl, _⟩ := id hg6
  obtain ⟨a7, b7, c7, rfl, _⟩ := id hg7
  obtain ⟨a8, b8, c8, rfl, _⟩ := id hg8
  obtain ⟨a9, b9, c9, rfl, _⟩ := id hg9
  obtain ⟨a10, b10, c10, rfl, _⟩ := id hg10
  have lm : ∀ q : Nat, q ≤ 10 → q ≤ lim := fun q hq => le_lim (by omega)
  have hrg := rngs_zero p1 (by omega)
  suffices h : ∃ e, exs (evF prog (n + 8)) [] F.law.body [.scr ns, .hole, .hole, .hole, .hole, .hole, .hole, .hole, .hole, .hole, .hole] = some (Fl.rt (.bl true) e) by
    obtain ⟨e, h⟩ := h
    exact ⟨_, runF_of (Γ := evF prog (n + 8)) (np := 1) (nl := 11) (ios := []) (args := [.scr ns]) (body := F.law.body) rfl rfl h⟩
  have e0' : evF prog (n + 8) 28 [.scr ns, .int 0] = _ := e0
  have f1' : evF prog (n + 8) 37 [G a0 b0 c0, .int 4, .int 4, .int 4] = _ := f1
  have f2' : evF prog (n + 8) 42 [G a1 b1 c1, .int (p1 : Nat)] = _ := f2
  have f3' : evF prog (n + 8) 42 [G a2 b2 c2, .int (p1 : Nat)] = _ := f3
  have f4' : evF prog (n + 8) 37 [G a7 b7 c7, .int 6, .int 8, .int 6] = _ := f4
  have f5' : evF prog (n + 8) 42 [G a8 b8 c8, .int (p2 : Nat)] = _ := f5
  have hit : evI (evF prog (n + 8)) [] (.e (.lst (.cons (.sh 3) (.cons (.lrg1 (.pk 2 [.n 0])) (.cons (.call 42 (.io 1 (.ex (.pk 2 [.n 0]) .nil))) (.cons (.lst .nil) .nil)))))) [.scr ns, G a2 b2 c2, .tup [.int (p1 : Nat), q1], ON cr, .hole, .hole, .hole, .hole, .hole, .hole, .hole] = some ([LN cr, .lst true ((List.range p1).map fun i : Nat => D.int (i : Nat)), ON cr2, .lst true []], [.scr ns, G a3 b3 c3, .tup [.int (p1 : Nat), q1], LN cr, .hole, .hole, .hole, .hole, .hole, .hole, .hole], none) := by
    simp [ev, evs, evA, evAnd, evOr, evI, ex, exs, runF, shP, getV, getP, place, isTys, isTy, outsOf, List.range_succ, fillA, backA, hasBw, cmpD, binD, bltD, bLen, ixv, subD, wipeD, bindT, bindMany, seqD, putD, putI, backD, isLstAt, setP, cStep, fStep, Function.comp_def, hrg, f3', lm]
  have l1 : ex (evF prog (n + 8)) [] F.law.l1 [.scr ns, G a2 b2 c2, .tup [.int (p1 : Nat), q1], ON cr, .hole, .hole, .hole, .hole, .hole, .hole, .hole] = some (.nx [.scr ns, G a7 b7 c7, cH p1 cs1, LN cr, LN [], .hole, .hole, .hole, .hole, .hole, .hole]) := by
    refine (ex_for2 hit (?_ : _ = some (.nx [.scr ns, G a7 b7 c7, cH p1 cs1, LN cr, LN [], .hole, .hole, .hole, .hole, .hole, .hole]))).trans rfl
    rw [loopF, law_b n (a := .hole) (b := .hole) (c := .hole) hr1 (share_LN false cr) k1]
    simp only
    rw [loopF, law_b n (a := .hole) (b := .hole) (c := .hole) (share_cH p1 cs1) (share_LN true (List.range p1)) k2]
    simp only
    rw [loopF, law_b n (a := .hole) (b := .hole) (c := .hole) (share_cH p1 cs1) (share_LN true cr2) k3]
    simp only
    rw [loopF, law_b n (a := .hole) (b := .hole) (c := .hole) (share_cH p1 cs1) (show share (.lst true []) = LN [] from rfl) k4]
    rfl
  show ∃ e, exs (evF prog (n + 8)) [] (.cons _ (.cons _ (.cons _ (.cons _ (.cons _ (.cons _ (.cons _ (.cons _ (.cons _ (.cons _ (.cons _ (.cons _ .nil)))))))))))) _ = _
  rw [exs_nx (env' := [.scr ns, G a0 b0 c0, .hole, .hole, .hole, .hole, .hole, .hole, .hole, .hole, .hole]) (by simp [ev, evs, evA, evAnd, evOr, evI, ex, exs, runF, shP, getV, getP, place, isTys, isTy, outsOf, List.range_succ, fillA, backA, hasBw, cmpD, binD, bltD, bLen, ixv, subD, wipeD, bindT, bindMany, seqD, putD, putI, backD, isLstAt, setP, cStep, fStep, Function.comp_def, e0'])]
  rw [exs_nx (env' := [.scr ns, G a1 b1 c1, .tup [.int (p1 : Nat), q1], .hole, .hole, .hole, .hole, .hole, .hole, .hole, .hole]) (by simp [ev, evs, evA, evAnd, evOr, evI, ex, exs, runF, shP, getV, getP, place, isTys, isTy, outsOf, List.range_succ, fillA, backA, hasBw, cmpD, binD, bltD, bLen, ixv, subD, wipeD, bindT, bindMany, seqD, putD, putI, backD, isLstAt, setP, cStep, fStep, Function.comp_def, f1'])]
  rw [exs_nx (env' := [.scr ns, G a2 b2 c2, .tup [.int (p1 : Nat), q1], ON cr, .hole, .hole, .hole, .hole, .hole, .hole, .hole]) (by simp [ev, evs, evA, evAnd, evOr, evI, ex, exs, runF, shP, getV, getP, place, isTys, isTy, outsOf, List.range_succ, fillA, backA, hasBw, cmpD, binD, bltD, bLen, ixv, subD, wipeD, bindT, bindMany, seqD, putD, putI, backD, isLstAt, setP, cStep, fStep, Function.comp_def, f2'])]
  rw [exs_nx l1]
  have d1 := law_c1 n (ns := ns) ok1 oc (G a7 b7 c7) (LN [])
  have d2 := fun x5 => law_c2 n (ns := ns) ok1 oc (G a7 b7 c7) (LN []) x5
  have hZ : share (.lst true ((List.range cs1.length).map fun k => D.bl ((low p1 cs1 cr)[k]? == some 1))) = .lst false ((List.range cs1.length).map fun k => D.bl ((low p1 cs1 cr)[k]? == some 1)) := by
    show D.lst false (share.shareL _) = _
    rw [shareL_map, List.map_map]
    rfl
  generalize ((List.range cs1.length).map fun k => D.bl ((low p1 cs1 cr)[k]? == some 1)) = Z at *
  have sme' : evF prog (n + 8) 32 [.lst true Z, .lst false Z] = _ := sme
  rw [exs_nx (env' := [.scr ns, G a7 b7 c7, cH p1 cs1, LN cr, LN [], .lst true Z, .hole, .hole, .hole, .hole, .hole]) (by simp only [ex, d1, List.not_mem_nil, if_false, Option.map_some, List.set])]
  have d2' := d2 (.lst true Z)
  rw [exs_nx (env' := [.scr ns, G a7 b7 c7, cH p1 cs1, LN cr, LN [], .lst false Z, .hole, .hole, .hole, .hole, .hole]) (by
    simp only [LN, List.map_nil] at d2' ⊢
    simp [ev, evs, evA, evAnd, evOr, evI, ex, exs, runF, shP, getV, getP, place, isTys, isTy, outsOf, List.range_succ, fillA, backA, hasBw, cmpD, binD, bltD, bLen, ixv, subD, wipeD, bindT, bindMany, seqD, putD, putI, backD, isLstAt, setP, cStep, fStep, Function.comp_def, d2', hZ, sme'])]
  rw [exs_nx (env' := [.scr ns, G a8 b8 c8, cH p1 cs1, LN cr, LN [], .lst false Z, .hole, .tup [.int (p2 : Nat), q2], .hole, .hole, .hole]) (by simp [ev, evs, evA, evAnd, evOr, evI, ex, exs, runF, shP, getV, getP, place, isTys, isTy, outsOf, List.range_succ, fillA, backA, hasBw, cmpD, binD, bltD, bLen, ixv, subD, wipeD, bindT, bindMany, seqD, putD, putI, backD, isLstAt, setP, cStep, fStep, Function.comp_def, f4'])]
  rw [exs_nx (env' := [.scr ns, G a10 b10 c10, cH p1 cs1, LN cr, LN [], .lst false Z, .hole, cH p2 cs2, .hole, .hole, .hole]) (by
    simp only [ON] at f5' k5
    simp [ev, evs, evA, evAnd, evOr, evI, ex, exs, runF, shP, getV, getP, place, isTys, isTy, outsOf, List.range_succ, fillA, backA, hasBw, cmpD, binD, bltD, bLen, ixv, subD, wipeD, bindT, bindMany, seqD, putD, putI, backD, isLstAt, setP, cStep, fStep, Function.comp_def, hr2, f5', k5])]
  rw [exs_nx (env' := [.scr ns, G a10 b10 c10, cH p1 cs1, LN cr, LN [], .lst false Z, .hole, cH p2 cs2, .tup [.int 2, .lst true [.tup [.lst true [.int 0, .int 1, .int 3], .lst true [.int 0, .int 0, .int 0, .int 1, .int 0, .int 1, .int 1, .int 1]], .tup [.lst true [.int 2, .int 3], .lst true [.int 0, .int 0, .int 0, .int 1]]]], .hole, .hole]) (by simp [ev, evs, evA, evAnd, evOr, evI, ex, exs, runF, shP, getV, getP, place, isTys, isTy, outsOf, List.range_succ, fillA, backA, hasBw, cmpD, binD, bltD, bLen, ixv, subD, wipeD, bindT, bindMany, seqD, putD, putI, backD, isLstAt, setP, cStep, fStep, Function.comp_def, lm])]
  have sR : share (.tup [.int 2, .lst true [.tup [.lst true [.int 0, .int 1, .int 3], .lst true [.int 0, .int 0, .int 0, .int 1, .int 0, .int 1, .int 1, .int 1]], .tup [.lst true [.int 2, .int 3], .lst true [.int 0, .int 0, .int 0, .int 1]]]]) = cH 2 ringC := rfl
  have b0 := brings_ok (n + 1) (u := cH 2 ringC) (v := .lst true [.int 0]) (cr := [0]) (k := 0) (share_cH _ _) rfl ring_okH cr0 (by simp [ev, evs, evA, evAnd, evOr, evI, ex, exs, runF, shP, getV, getP, place, isTys, isTy, outsOf, List.range_succ, fillA, backA, hasBw, cmpD, binD, bltD, bLen, ixv, subD, wipeD, bindT, bindMany, seqD, putD, putI, backD, isLstAt, setP, cStep, fStep, Function.comp_def])
  have b1 := brings_ok (n + 1) (u := cH 2 ringC) (v := .lst true [.int 0, .int 1]) (cr := [0, 1]) (k := 0) (share_cH _ _) rfl ring_okH cr01 (by simp [ev, evs, evA, evAnd, evOr, evI, ex, exs, runF, shP, getV, getP, place, isTys, isTy, outsOf, List.range_succ, fillA, backA, hasBw, cmpD, binD, bltD, bLen, ixv, subD, wipeD, bindT, bindMany, seqD, putD, putI, backD, isLstAt, setP, cStep, fStep, Function.comp_def])
  have b2 := brings_ok (n + 1) (u := cH 2 ringC) (v := .lst true [.int 0, .int 1]) (cr := [0, 1]) (k := 1) (share_cH _ _) rfl ring_okH cr01 (by simp [ev, evs, evA, evAnd, evOr, evI, ex, exs, runF, shP, getV, getP, place, isTys, isTy, outsOf, List.range_succ, fillA, backA, hasBw, cmpD, binD, bltD, bLen, ixv, subD, wipeD, bindT, bindMany, seqD, putD, putI, backD, isLstAt, setP, cStep, fStep, Function.comp_def])
  rw [lowr0] at b0
  rw [lowr01] at b1 b2
  have h3 := ring_chain01 (n + 1) (u := cH 2 ringC) (v := .lst true [.int 0, .int 1]) (share_cH _ _) rfl
  have h4 := ring_is (n + 1) (u := cH 2 ringC) (v := .lst true [.int 0, .int 1]) (w := .lst true [.int 0]) (S := [0]) (share_cH _ _) rfl rfl (by simp [ev, evs, evA, evAnd, evOr, evI, ex, exs, runF, shP, getV, getP, place, isTys, isTy, outsOf, List.range_succ, fillA, backA, hasBw, cmpD, binD, bltD, bLen, ixv, subD, wipeD, bindT, bindMany, seqD, putD, putI, backD, isLstAt, setP, cStep, fStep, Function.comp_def]) (by simp [ev, evs, evA, evAnd, evOr, evI, ex, exs, runF, shP, getV, getP, place, isTys, isTy, outsOf, List.range_succ, fillA, backA, hasBw, cmpD, binD, bltD, bLen, ixv, subD, wipeD, bindT, bindMany, seqD, putD, putI, backD, isLstAt, setP, cStep, fStep, Function.comp_def])
  have h5 := ring_is (n + 1) (u := cH 2 ringC) (v := .lst true [.int 0, .int 1]) (w := .lst true [.int 0, .int 1]) (S := [0, 1]) (share_cH _ _) rfl rfl (by simp [ev, evs, evA, evAnd, evOr, evI, ex, exs, runF, shP, getV, getP, place, isTys, isTy, outsOf, List.range_succ, fillA, backA, hasBw, cmpD, binD, bltD, bLen, ixv, subD, wipeD, bindT, bindMany, seqD, putD, putI, backD, isLstAt, setP, cStep, fStep, Function.comp_def]) (by simp [ev, evs, evA, evAnd, evOr, evI, ex, exs, runF, shP, getV, getP, place, isTys, isTy, outsOf, List.range_succ, fillA, backA, hasBw, cmpD, binD, bltD, bLen, ixv, subD, wipeD, bindT, bindMany, seqD, putD, putI, backD, isLstAt, setP, cStep, fStep, Function.comp_def])
  have h6 := ring_is (n + 1) (u := cH 2 ringC) (v := .lst true [.int 0, .int 1]) (w := .lst true []) (S := []) (share_cH _ _) rfl rfl (by simp [ev, evs, evA, evAnd, evOr, evI, ex, exs, runF, shP, getV, getP, place, isTys, isTy, outsOf, List.range_succ, fillA, backA, hasBw, cmpD, binD, bltD, bLen, ixv, subD, wipeD, bindT, bindMany, seqD, putD, putI, backD, isLstAt, setP, cStep, fStep, Function.comp_def]) (by simp [ev, evs, evA, evAnd, evOr, evI, ex, exs, runF, shP, getV, getP, place, isTys, isTy, outsOf, List.range_succ, fillA, backA, hasBw, cmpD, binD, bltD, bLen, ixv, subD, wipeD, bindT, bindMany, seqD, putD, putI, backD, isLstAt, setP, cStep, fStep, Function.comp_def])
  rw [is0] at h4
  rw [is01] at h5
  rw [isN] at h6
  have h7 := ring_chain1 (n + 1) (u := cH 2 ringC) (v := .lst true [.int 1]) (share_cH _ _) rfl
  have h8 := one_chain (n + 1) (u := .tup [.int 1, .lst true [.tup [.lst true [.int 0], .lst true [.int 1, .int 1]]]]) (v := .lst true []) rfl rfl
  have hlast := same_ok (n + 5) 2 (a := .lst true [.bl false, .bl true, .bl false, ON [0], .bl true, .bl false, .bl false, ON [], ON [0]]) (b := .lst true [.bl false, .bl true, .bl false, ON [0], .bl true, .bl false, .bl false, ON [], ON [0]]) rfl ⟨by decide, by decide⟩
  have B0 : evF prog (n + 8) 21 [cH 2 ringC, .lst true [.int 0], .int 0] = some (.bl false, [.hole, .hole, .hole]) := b0
  have B1 : evF prog (n + 8) 21 [.tup [.int 2, dCos ringC], .lst true [.int 0, .int 1], .int 0] = some (.bl true, [.hole, .hole, .hole]) := b1
  have B2 : evF prog (n + 8) 21 [.tup [.int 2, dCos ringC], .lst true [.int 0, .int 1], .int 1] = some (.bl false, [.hole, .hole, .hole]) := b2
  have B3 : evF prog (n + 8) 23 [.tup [.int 2, dCos ringC], .lst true [.int 0, .int 1]] = some (.lst true [.int 0], [.hole, .hole]) := h3
  have B4 : evF prog (n + 8) 24 [.tup [.int 2, dCos ringC], .lst true [.int 0, .int 1], .lst true [.int 0]] = some (.bl true, [.hole, .hole, .hole]) := h4
  have B5 : evF prog (n + 8) 24 [.tup [.int 2, dCos ringC], .lst true [.int 0, .int 1], .lst true [.int 0, .int 1]] = some (.bl false, [.hole, .hole, .hole]) := h5
  have B6 : evF prog (n + 8) 24 [.tup [.int 2, dCos ringC], .lst true [.int 0, .int 1], .lst true []] = some (.bl false, [.hole, .hole, .hole]) := h6
  have B7 : evF prog (n + 8) 23 [.tup [.int 2, dCos ringC], .lst true [.int 1]] = some (.lst true [], [.hole, .hole]) := h7
  have B8 : evF prog (n + 8) 23 [.tup [.int 1, .lst true [.tup [.lst true [.int 0], .lst true [.int 1, .int 1]]]], .lst true []] = some (.lst true [.int 0], [.hole, .hole]) := h8
  have BL : evF prog (n + 8) 32 [.lst true [.bl false, .bl true, .bl false, .lst true [.int 0], .bl true, .bl false, .bl false, .lst true [], .lst true [.int 0]], .lst true [.bl false, .bl true, .bl false, .lst true [.int 0], .bl true, .bl false, .bl false, .lst true [], .lst true [.int 0]]] = some (.bl true, [.hole, .hole]) := hlast
  clear b0 b1 b2 h3 h4 h5 h6 h7 h8 hlast
  rw [exs_nx (env' := [.scr ns, G a10 b10 c10, cH p1 cs1, LN cr, LN [], .lst false Z, .hole, cH p2 cs2, cH 2 ringC, .lst true [.bl false, .bl true, .bl false, .lst true [.int 0], .bl true, .bl false], .hole]) (by
    simp [ev, evs, evA, evAnd, evOr, evI, ex, exs, runF, shP, getV, getP, place, isTys, isTy, outsOf, List.range_succ, fillA, backA, hasBw, cmpD, binD, bltD, bLen, ixv, subD, wipeD, bindT, bindMany, seqD, putD, putI, backD, isLstAt, setP, cStep, fStep, Function.comp_def, sR, B0, B1, B2, B3, B4, B5, lm, permD])]
  rw [exs_nx (env' := [.scr ns, G a10 b10 c10, cH p1 cs1, LN cr, LN [], .lst false Z, .hole, cH p2 cs2, cH 2 ringC, .lst true [.bl false, .bl true, .bl false, .lst true [.int 0], .bl true, .bl false], .lst true [.bl false, .lst true [], .lst true [.int 0]]]) (by
    simp [ev, evs, evA, evAnd, evOr, evI, ex, exs, runF, shP, getV, getP, place, isTys, isTy, outsOf, List.range_succ, fillA, backA, hasBw, cmpD, binD, bltD, bLen, ixv, subD, wipeD, bindT, bindMany, seqD, putD, putI, backD, isLstAt, setP, cStep, fStep, Function.comp_def, B6, B7, B8, lm])]
  exact ⟨_, by simp [ev, evs, evA, evAnd, evOr, evI, ex, exs, runF, shP, getV, getP, place, isTys, isTy, outsOf, List.range_succ, fillA, backA, hasBw, cmpD, binD, bltD, bLen, ixv, subD, wipeD, bindT, bindMany, seqD, putD, putI, backD, isLstAt, setP, cStep, fStep, Function.comp_def, lm, BL]; rfl⟩
end K81

section
set_option maxHeartbeats 0
namespace K81
open OE PySem PySem.Spec PyProof.Rows L2
/-! the head -/
def loose0 : List Str := ["VoteError", "InvalidCrowd", "InvalidNumber", "InvalidHoldings", "is_whole", "is_count", "is_rule_of", "count_of", "listed_ballots", "number_in", "heights_of", "none_greater", "rises_by_steps", "fall_of", "first_fall_of", "is_ascending", "is_company_of", "is_holdings", "check_holdings", "check_people", "check_company", "said_by", "answers", "settled_from", "least_of", "brings", "carried_with", "chain_of", "is_chain", "_law_hash"]
def loose1 : List Str := ["_law_random", "_law_cell", "_law_generator", "_law_pick", "_law_drawn_order", "_law_ballots", "_law_same", "_law_number_in", "_law_below", "_law_weighted", "_law_rising", "_law_holdings", "_law_answers", "_law_outcomes", "_law_all_lots", "_law_brings", "_law_lot", "_law_is_chain", "_law_drawn_chain", "_law_changed_chains", "_law_chains_right"]
def loose : List Str := loose0 ++ loose1
def dd (d : PD) : He.DefD := ⟨(d.name, none), d.name, d.name, d.params, d.body, d.scope, [], []⟩
def fn : List He.DefD := tab.map dd
def fa : List He.Fa := (tab.map fun d => He.Fa.glo d.name) ++ bltNames.map He.Fa.free
abbrev R : PySem.W.OpenRow := PySem.W.OpenLaw.row PySem.Challenge.rw_pastvotes_k81_whole_brings_and_chains
abbrev hk : PySem.W.Hook := He.hookD 4 fa fn
def ob (s : PySem.W.SharedT) : He.AlD := He.obsDG 4 fa fn (HandSHeadRun.getT s)
theorem ob_eq (s : PySem.W.SharedT) : ob s = hk.obs s.abs := He.obsDG_eq (HandSHeadRun.getT_eq s)
theorem run (w : World) : HandSHeadRun.RunEq R (PySem.W.view R.prog [56]) hk ob 9000 loose w := by
  intro os
  kernel_rfl
end K81

end
section
set_option maxHeartbeats 0
namespace K81
open OE PySem PySem.Spec PyProof.Rows L2
theorem at0 {K : PySem.W.Frag} {h : Heap} {mg : Str → Option Value} (X : K.In h) (G : h.Ns mainGlobals mg) (c : He.SaysD fa fn K) : ∃ p : Addr × FuncData, PD.At K mg kl 0 (d0) p.1 p.2 := by
  obtain ⟨fdd, F0⟩ := c.def_ 0 (d := dd d0) (by first | rfl | kernel_rfl)
  have F : FunD K d0.name d0.name d0.params d0.body d0.scope [] [] (He.fAd K (d0.name, none)) fdd := F0
  refine ⟨(_, fdd), F, He.glo_ok X G (c.fact 0 (f := .glo d0.name) (by first | rfl | kernel_rfl)), F.bindsN (ps := d0.ps) fun _ _ _ _ _ _ us hl => match us, hl with | [_], _ => rfl, fun ks js hm => ?_⟩
  exact absurd hm (by simp [kl])
theorem at1 {K : PySem.W.Frag} {h : Heap} {mg : Str → Option Value} (X : K.In h) (G : h.Ns mainGlobals mg) (c : He.SaysD fa fn K) : ∃ p : Addr × FuncData, PD.At K mg kl 1 (d1) p.1 p.2 := by
  obtain ⟨fdd, F0⟩ := c.def_ 1 (d := dd d1) (by first | rfl | kernel_rfl)
  have F : FunD K d1.name d1.name d1.params d1.body d1.scope [] [] (He.fAd K (d1.name, none)) fdd := F0
  refine ⟨(_, fdd), F, He.glo_ok X G (c.fact 1 (f := .glo d1.name) (by first | rfl | kernel_rfl)), F.bindsN (ps := d1.ps) fun _ _ _ _ _ _ us hl => match us, hl with | [_], _ => rfl, fun ks js hm => ?_⟩
  exact absurd hm (by simp [kl])
theorem at2 {K : PySem.W.Frag} {h : Heap} {mg : Str → Option Value} (X : K.In h) (G : h.Ns mainGlobals mg) (c : He.SaysD fa fn K) : ∃ p : Addr × FuncData, PD.At K mg kl 2 (d2) p.1 p.2 := by
  obtain ⟨fdd, F0⟩ := c.def_ 2 (d := dd d2) (by first | rfl | kernel_rfl)
  have F : FunD K d2.name d2.name d2.params d2.body d2.scope [] [] (He.fAd K (d2.name, none)) fdd := F0
  refine ⟨(_, fdd), F, He.glo_ok X G (c.fact 2 (f := .glo d2.name) (by first | rfl | kernel_rfl)), F.bindsN (ps := d2.ps) fun _ _ _ _ _ _ us hl => match us, hl with | [_, _], _ => rfl, fun ks js hm => ?_⟩
  exact absurd hm (by simp [kl])
theorem at3 {K : PySem.W.Frag} {h : Heap} {mg : Str → Option Value} (X : K.In h) (G : h.Ns mainGlobals mg) (c : He.SaysD fa fn K) : ∃ p : Addr × FuncData, PD.At K mg kl 3 (d3) p.1 p.2 := by
  obtain ⟨fdd, F0⟩ := c.def_ 3 (d := dd d3) (by first | rfl | kernel_rfl)
  have F : FunD K d3.name d3.name d3.params d3.body d3.scope [] [] (He.fAd K (d3.name, none)) fdd := F0
  refine ⟨(_, fdd), F, He.glo_ok X G (c.fact 3 (f := .glo d3.name) (by first | rfl | kernel_rfl)), F.bindsN (ps := d3.ps) fun _ _ _ _ _ _ us hl => match us, hl with | [_], _ => rfl, fun ks js hm => ?_⟩
  exact absurd hm (by simp [kl])
theorem at4 {K : PySem.W.Frag} {h : Heap} {mg : Str → Option Value} (X : K.In h) (G : h.Ns mainGlobals mg) (c : He.SaysD fa fn K) : ∃ p : Addr × FuncData, PD.At K mg kl 4 (d4) p.1 p.2 := by
  obtain ⟨fdd, F0⟩ := c.def_ 4 (d := dd d4) (by first | rfl | kernel_rfl)
  have F : FunD K d4.name d4.name d4.params d4.body d4.scope [] [] (He.fAd K (d4.name, none)) fdd := F0
  refine ⟨(_, fdd), F, He.glo_ok X G (c.fact 4 (f := .glo d4.name) (by first | rfl | kernel_rfl)), F.bindsN (ps := d4.ps) fun _ _ _ _ _ _ us hl => match us, hl with | [_], _ => rfl, fun ks js hm => ?_⟩
  exact absurd hm (by simp [kl])
theorem at5 {K : PySem.W.Frag} {h : Heap} {mg : Str → Option Value} (X : K.In h) (G : h.Ns mainGlobals mg) (c : He.SaysD fa fn K) : ∃ p : Addr × FuncData, PD.At K mg kl 5 (d5) p.1 p.2 := by
  obtain ⟨fdd, F0⟩ := c.def_ 5 (d := dd d5) (by first | rfl | kernel_rfl)
  have F : FunD K d5.name d5.name d5.params d5.body d5.scope [] [] (He.fAd K (d5.name, none)) fdd := F0
  refine ⟨(_, fdd), F, He.glo_ok X G (c.fact 5 (f := .glo d5.name) (by first | rfl | kernel_rfl)), F.bindsN (ps := d5.ps) fun _ _ _ _ _ _ us hl => match us, hl with | [_, _], _ => rfl, fun ks js hm => ?_⟩
  exact absurd hm (by simp [kl])
theorem at6 {K : PySem.W.Frag} {h : Heap} {mg : Str → Option Value} (X : K.In h) (G : h.Ns mainGlobals mg) (c : He.SaysD fa fn K) : ∃ p : Addr × FuncData, PD.At K mg kl 6 (d6) p.1 p.2 := by
  obtain ⟨fdd, F0⟩ := c.def_ 6 (d := dd d6) (by first | rfl | kernel_rfl)
  have F : FunD K d6.name d6.name d6.params d6.body d6.scope [] [] (He.fAd K (d6.name, none)) fdd := F0
  refine ⟨(_, fdd), F, He.glo_ok X G (c.fact 6 (f := .glo d6.name) (by first | rfl | kernel_rfl)), F.bindsN (ps := d6.ps) fun _ _ _ _ _ _ us hl => match us, hl with | [_, _, _], _ => rfl, fun ks js hm => ?_⟩
  exact absurd hm (by simp [kl])
theorem at7 {K : PySem.W.Frag} {h : Heap} {mg : Str → Option Value} (X : K.In h) (G : h.Ns mainGlobals mg) (c : He.SaysD fa fn K) : ∃ p : Addr × FuncData, PD.At K mg kl 7 (d7) p.1 p.2 := by
  obtain ⟨fdd, F0⟩ := c.def_ 7 (d := dd d7) (by first | rfl | kernel_rfl)
  have F : FunD K d7.name d7.name d7.params d7.body d7.scope [] [] (He.fAd K (d7.name, none)) fdd := F0
  refine ⟨(_, fdd), F, He.glo_ok X G (c.fact 7 (f := .glo d7.name) (by first | rfl | kernel_rfl)), F.bindsN (ps := d7.ps) fun _ _ _ _ _ _ us hl => match us, hl with | [_, _], _ => rfl, fun ks js hm => ?_⟩
  exact absurd hm (by simp [kl])
theorem at8 {K : PySem.W.Frag} {h : Heap} {mg : Str → Option Value} (X : K.In h) (G : h.Ns mainGlobals mg) (c : He.SaysD fa fn K) : ∃ p : Addr × FuncData, PD.At K mg kl 8 (d8) p.1 p.2 := by
  obtain ⟨fdd, F0⟩ := c.def_ 8 (d := dd d8) (by first | rfl | kernel_rfl)
  have F : FunD K d8.name d8.name d8.params d8.body d8.scope [] [] (He.fAd K (d8.name, none)) fdd := F0
  refine ⟨(_, fdd), F, He.glo_ok X G (c.fact 8 (f := .glo d8.name) (by first | rfl | kernel_rfl)), F.bindsN (ps := d8.ps) fun _ _ _ _ _ _ us hl => match us, hl with | [_, _], _ => rfl, fun ks js hm => ?_⟩
  exact absurd hm (by simp [kl])
theorem at9 {K : PySem.W.Frag} {h : Heap} {mg : Str → Option Value} (X : K.In h) (G : h.Ns mainGlobals mg) (c : He.SaysD fa fn K) : ∃ p : Addr × FuncData, PD.At K mg kl 9 (d9) p.1 p.2 := by
  obtain ⟨fdd, F0⟩ := c.def_ 9 (d := dd d9) (by first | rfl | kernel_rfl)
  have F : FunD K d9.name d9.name d9.params d9.body d9.scope [] [] (He.fAd K (d9.name, none)) fdd := F0
  refine ⟨(_, fdd), F, He.glo_ok X G (c.fact 9 (f := .glo d9.name) (by first | rfl | kernel_rfl)), F.bindsN (ps := d9.ps) fun _ _ _ _ _ _ us hl => match us, hl with | [_, _, _], _ => rfl, fun ks js hm => ?_⟩
  exact absurd hm (by simp [kl])
theorem at10 {K : PySem.W.Frag} {h : Heap} {mg : Str → Option Value} (X : K.In h) (G : h.Ns mainGlobals mg) (c : He.SaysD fa fn K) : ∃ p : Addr × FuncData, PD.At K mg kl 10 (d10) p.1 p.2 := by
  obtain ⟨fdd, F0⟩ := c.def_ 10 (d := dd d10) (by first | rfl | kernel_rfl)
  have F : FunD K d10.name d10.name d10.params d10.body d10.scope [] [] (He.fAd K (d10.name, none)) fdd := F0
  refine ⟨(_, fdd), F, He.glo_ok X G (c.fact 10 (f := .glo d10.name) (by first | rfl | kernel_rfl)), F.bindsN (ps := d10.ps) fun _ _ _ _ _ _ us hl => match us, hl with | [_, _], _ => rfl, fun ks js hm => ?_⟩
  exact absurd hm (by simp [kl])
theorem at11 {K : PySem.W.Frag} {h : Heap} {mg : Str → Option Value} (X : K.In h) (G : h.Ns mainGlobals mg) (c : He.SaysD fa fn K) : ∃ p : Addr × FuncData, PD.At K mg kl 11 (d11) p.1 p.2 := by
  obtain ⟨fdd, F0⟩ := c.def_ 11 (d := dd d11) (by first | rfl | kernel_rfl)
  have F : FunD K d11.name d11.name d11.params d11.body d11.scope [] [] (He.fAd K (d11.name, none)) fdd := F0
  refine ⟨(_, fdd), F, He.glo_ok X G (c.fact 11 (f := .glo d11.name) (by first | rfl | kernel_rfl)), F.bindsN (ps := d11.ps) fun _ _ _ _ _ _ us hl => match us, hl with | [_, _], _ => rfl, fun ks js hm => ?_⟩
  exact absurd hm (by simp [kl])
theorem at12 {K : PySem.W.Frag} {h : Heap} {mg : Str → Option Value} (X : K.In h) (G : h.Ns mainGlobals mg) (c : He.SaysD fa fn K) : ∃ p : Addr × FuncData, PD.At K mg kl 12 (d12) p.1 p.2 := by
  obtain ⟨fdd, F0⟩ := c.def_ 12 (d := dd d12) (by first | rfl | kernel_rfl)
  have F : FunD K d12.name d12.name d12.params d12.body d12.scope [] [] (He.fAd K (d12.name, none)) fdd := F0
  refine ⟨(_, fdd), F, He.glo_ok X G (c.fact 12 (f := .glo d12.name) (by first | rfl | kernel_rfl)), F.bindsN (ps := d12.ps) fun _ _ _ _ _ _ us hl => match us, hl with | [_, _], _ => rfl, fun ks js hm => ?_⟩
  exact absurd hm (by simp [kl])
theorem at13 {K : PySem.W.Frag} {h : Heap} {mg : Str → Option Value} (X : K.In h) (G : h.Ns mainGlobals mg) (c : He.SaysD fa fn K) : ∃ p : Addr × FuncData, PD.At K mg kl 13 (d13) p.1 p.2 := by
  obtain ⟨fdd, F0⟩ := c.def_ 13 (d := dd d13) (by first | rfl | kernel_rfl)
  have F : FunD K d13.name d13.name d13.params d13.body d13.scope [] [] (He.fAd K (d13.name, none)) fdd := F0
  refine ⟨(_, fdd), F, He.glo_ok X G (c.fact 13 (f := .glo d13.name) (by first | rfl | kernel_rfl)), F.bindsN (ps := d13.ps) fun _ _ _ _ _ _ us hl => match us, hl with | [_], _ => rfl, fun ks js hm => ?_⟩
  exact absurd hm (by simp [kl])
theorem at14 {K : PySem.W.Frag} {h : Heap} {mg : Str → Option Value} (X : K.In h) (G : h.Ns mainGlobals mg) (c : He.SaysD fa fn K) : ∃ p : Addr × FuncData, PD.At K mg kl 14 (d14) p.1 p.2 := by
  obtain ⟨fdd, F0⟩ := c.def_ 14 (d := dd d14) (by first | rfl | kernel_rfl)
  have F : FunD K d14.name d14.name d14.params d14.body d14.scope [] [] (He.fAd K (d14.name, none)) fdd := F0
  refine ⟨(_, fdd), F, He.glo_ok X G (c.fact 14 (f := .glo d14.name) (by first | rfl | kernel_rfl)), F.bindsN (ps := d14.ps) fun _ _ _ _ _ _ us hl => match us, hl with | [_], _ => rfl, fun ks js hm => ?_⟩
  exact absurd hm (by simp [kl])
theorem at15 {K : PySem.W.Frag} {h : Heap} {mg : Str → Option Value} (X : K.In h) (G : h.Ns mainGlobals mg) (c : He.SaysD fa fn K) : ∃ p : Addr × FuncData, PD.At K mg kl 15 (d15) p.1 p.2 := by
  obtain ⟨fdd, F0⟩ := c.def_ 15 (d := dd d15) (by first | rfl | kernel_rfl)
  have F : FunD K d15.name d15.name d15.params d15.body d15.scope [] [] (He.fAd K (d15.name, none)) fdd := F0
  refine ⟨(_, fdd), F, He.glo_ok X G (c.fact 15 (f := .glo d15.name) (by first | rfl | kernel_rfl)), F.bindsN (ps := d15.ps) fun _ _ _ _ _ _ us hl => match us, hl with | [_, _], _ => rfl, fun ks js hm => ?_⟩
  exact absurd hm (by simp [kl])
theorem at16 {K : PySem.W.Frag} {h : Heap} {mg : Str → Option Value} (X : K.In h) (G : h.Ns mainGlobals mg) (c : He.SaysD fa fn K) : ∃ p : Addr × FuncData, PD.At K mg kl 16 (d16) p.1 p.2 := by
  obtain ⟨fdd, F0⟩ := c.def_ 16 (d := dd d16) (by first | rfl | kernel_rfl)
  have F : FunD K d16.name d16.name d16.params d16.body d16.scope [] [] (He.fAd K (d16.name, none)) fdd := F0
  refine ⟨(_, fdd), F, He.glo_ok X G (c.fact 16 (f := .glo d16.name) (by first | rfl | kernel_rfl)), F.bindsN (ps := d16.ps) fun _ _ _ _ _ _ us hl => match us, hl with | [_, _], _ => rfl, fun ks js hm => ?_⟩
  exact absurd hm (by simp [kl])
theorem at17 {K : PySem.W.Frag} {h : Heap} {mg : Str → Option Value} (X : K.In h) (G : h.Ns mainGlobals mg) (c : He.SaysD fa fn K) : ∃ p : Addr × FuncData, PD.At K mg kl 17 (d17) p.1 p.2 := by
  obtain ⟨fdd, F0⟩ := c.def_ 17 (d := dd d17) (by first | rfl | kernel_rfl)
  have F : FunD K d17.name d17.name d17.params d17.body d17.scope [] [] (He.fAd K (d17.name, none)) fdd := F0
  refine ⟨(_, fdd), F, He.glo_ok X G (c.fact 17 (f := .glo d17.name) (by first | rfl | kernel_rfl)), F.bindsN (ps := d17.ps) fun _ _ _ _ _ _ us hl => match us, hl with | [_, _], _ => rfl, fun ks js hm => ?_⟩
  exact absurd hm (by simp [kl])
theorem at18 {K : PySem.W.Frag} {h : Heap} {mg : Str → Option Value} (X : K.In h) (G : h.Ns mainGlobals mg) (c : He.SaysD fa fn K) : ∃ p : Addr × FuncData, PD.At K mg kl 18 (d18) p.1 p.2 := by
  obtain ⟨fdd, F0⟩ := c.def_ 18 (d := dd d18) (by first | rfl | kernel_rfl)
  have F : FunD K d18.name d18.name d18.params d18.body d18.scope [] [] (He.fAd K (d18.name, none)) fdd := F0
  refine ⟨(_, fdd), F, He.glo_ok X G (c.fact 18 (f := .glo d18.name) (by first | rfl | kernel_rfl)), F.bindsN (ps := d18.ps) fun _ _ _ _ _ _ us hl => match us, hl with | [_, _], _ => rfl, fun ks js hm => ?_⟩
  exact absurd hm (by simp [kl])
theorem at19 {K : PySem.W.Frag} {h : Heap} {mg : Str → Option Value} (X : K.In h) (G : h.Ns mainGlobals mg) (c : He.SaysD fa fn K) : ∃ p : Addr × FuncData, PD.At K mg kl 19 (d19) p.1 p.2 := by
  obtain ⟨fdd, F0⟩ := c.def_ 19 (d := dd d19) (by first | rfl | kernel_rfl)
  have F : FunD K d19.name d19.name d19.params d19.body d19.scope [] [] (He.fAd K (d19.name, none)) fdd := F0
  refine ⟨(_, fdd), F, He.glo_ok X G (c.fact 19 (f := .glo d19.name) (by first | rfl | kernel_rfl)), F.bindsN (ps := d19.ps) fun _ _ _ _ _ _ us hl => match us, hl with | [_, _, _], _ => rfl, fun ks js hm => ?_⟩
  exact absurd hm (by simp [kl])
theorem at20 {K : PySem.W.Frag} {h : Heap} {mg : Str → Option Value} (X : K.In h) (G : h.Ns mainGlobals mg) (c : He.SaysD fa fn K) : ∃ p : Addr × FuncData, PD.At K mg kl 20 (d20) p.1 p.2 := by
  obtain ⟨fdd, F0⟩ := c.def_ 20 (d := dd d20) (by first | rfl | kernel_rfl)
  have F : FunD K d20.name d20.name d20.params d20.body d20.scope [] [] (He.fAd K (d20.name, none)) fdd := F0
  refine ⟨(_, fdd), F, He.glo_ok X G (c.fact 20 (f := .glo d20.name) (by first | rfl | kernel_rfl)), F.bindsN (ps := d20.ps) fun _ _ _ _ _ _ us hl => match us, hl with | [_, _], _ => rfl, fun ks js hm => ?_⟩
  exact absurd hm (by simp [kl])
theorem at21 {K : PySem.W.Frag} {h : Heap} {mg : Str → Option Value} (X : K.In h) (G : h.Ns mainGlobals mg) (c : He.SaysD fa fn K) : ∃ p : Addr × FuncData, PD.At K mg kl 21 (d21) p.1 p.2 := by
  obtain ⟨fdd, F0⟩ := c.def_ 21 (d := dd d21) (by first | rfl | kernel_rfl)
  have F : FunD K d21.name d21.name d21.params d21.body d21.scope [] [] (He.fAd K (d21.name, none)) fdd := F0
  refine ⟨(_, fdd), F, He.glo_ok X G (c.fact 21 (f := .glo d21.name) (by first | rfl | kernel_rfl)), F.bindsN (ps := d21.ps) fun _ _ _ _ _ _ us hl => match us, hl with | [_, _, _], _ => rfl, fun ks js hm => ?_⟩
  simp [kl] at hm
  obtain ⟨rfl, rfl⟩ := hm
  exact kb_of F (by simp [d21]) fun _ _ _ _ _ _ ws hl => match ws, hl with | [_, _, _], _ => rfl
theorem at22 {K : PySem.W.Frag} {h : Heap} {mg : Str → Option Value} (X : K.In h) (G : h.Ns mainGlobals mg) (c : He.SaysD fa fn K) : ∃ p : Addr × FuncData, PD.At K mg kl 22 (d22) p.1 p.2 := by
  obtain ⟨fdd, F0⟩ := c.def_ 22 (d := dd d22) (by first | rfl | kernel_rfl)
  have F : FunD K d22.name d22.name d22.params d22.body d22.scope [] [] (He.fAd K (d22.name, none)) fdd := F0
  refine ⟨(_, fdd), F, He.glo_ok X G (c.fact 22 (f := .glo d22.name) (by first | rfl | kernel_rfl)), F.bindsN (ps := d22.ps) fun _ _ _ _ _ _ us hl => match us, hl with | [_, _, _], _ => rfl, fun ks js hm => ?_⟩
  exact absurd hm (by simp [kl])
theorem at23 {K : PySem.W.Frag} {h : Heap} {mg : Str → Option Value} (X : K.In h) (G : h.Ns mainGlobals mg) (c : He.SaysD fa fn K) : ∃ p : Addr × FuncData, PD.At K mg kl 23 (d23) p.1 p.2 := by
  obtain ⟨fdd, F0⟩ := c.def_ 23 (d := dd d23) (by first | rfl | kernel_rfl)
  have F : FunD K d23.name d23.name d23.params d23.body d23.scope [] [] (He.fAd K (d23.name, none)) fdd := F0
  refine ⟨(_, fdd), F, He.glo_ok X G (c.fact 23 (f := .glo d23.name) (by first | rfl | kernel_rfl)), F.bindsN (ps := d23.ps) fun _ _ _ _ _ _ us hl => match us, hl with | [_, _], _ => rfl, fun ks js hm => ?_⟩
  simp [kl] at hm
  obtain ⟨rfl, rfl⟩ := hm
  exact kb_of F (by simp [d23]) fun _ _ _ _ _ _ ws hl => match ws, hl with | [_, _], _ => rfl
theorem at24 {K : PySem.W.Frag} {h : Heap} {mg : Str → Option Value} (X : K.In h) (G : h.Ns mainGlobals mg) (c : He.SaysD fa fn K) : ∃ p : Addr × FuncData, PD.At K mg kl 24 (d24) p.1 p.2 := by
  obtain ⟨fdd, F0⟩ := c.def_ 24 (d := dd d24) (by first | rfl | kernel_rfl)
  have F : FunD K d24.name d24.name d24.params d24.body d24.scope [] [] (He.fAd K (d24.name, none)) fdd := F0
  refine ⟨(_, fdd), F, He.glo_ok X G (c.fact 24 (f := .glo d24.name) (by first | rfl | kernel_rfl)), F.bindsN (ps := d24.ps) fun _ _ _ _ _ _ us hl => match us, hl with | [_, _, _], _ => rfl, fun ks js hm => ?_⟩
  simp [kl] at hm
  obtain ⟨rfl, rfl⟩ := hm
  exact kb_of F (by simp [d24]) fun _ _ _ _ _ _ ws hl => match ws, hl with | [_, _, _], _ => rfl
theorem at25 {K : PySem.W.Frag} {h : Heap} {mg : Str → Option Value} (X : K.In h) (G : h.Ns mainGlobals mg) (c : He.SaysD fa fn K) : ∃ p : Addr × FuncData, PD.At K mg kl 25 (d25) p.1 p.2 := by
  obtain ⟨fdd, F0⟩ := c.def_ 25 (d := dd d25) (by first | rfl | kernel_rfl)
  have F : FunD K d25.name d25.name d25.params d25.body d25.scope [] [] (He.fAd K (d25.name, none)) fdd := F0
  refine ⟨(_, fdd), F, He.glo_ok X G (c.fact 25 (f := .glo d25.name) (by first | rfl | kernel_rfl)), F.bindsN (ps := d25.ps) fun _ _ _ _ _ _ us hl => match us, hl with | [_, _], _ => rfl, fun ks js hm => ?_⟩
  exact absurd hm (by simp [kl])
theorem at26 {K : PySem.W.Frag} {h : Heap} {mg : Str → Option Value} (X : K.In h) (G : h.Ns mainGlobals mg) (c : He.SaysD fa fn K) : ∃ p : Addr × FuncData, PD.At K mg kl 26 (d26) p.1 p.2 := by
  obtain ⟨fdd, F0⟩ := c.def_ 26 (d := dd d26) (by first | rfl | kernel_rfl)
  have F : FunD K d26.name d26.name d26.params d26.body d26.scope [] [] (He.fAd K (d26.name, none)) fdd := F0
  refine ⟨(_, fdd), F, He.glo_ok X G (c.fact 26 (f := .glo d26.name) (by first | rfl | kernel_rfl)), F.bindsN (ps := d26.ps) fun _ _ _ _ _ _ us hl => match us, hl with | [_, _], _ => rfl, fun ks js hm => ?_⟩
  exact absurd hm (by simp [kl])
theorem at27 {K : PySem.W.Frag} {h : Heap} {mg : Str → Option Value} (X : K.In h) (G : h.Ns mainGlobals mg) (c : He.SaysD fa fn K) : ∃ p : Addr × FuncData, PD.At K mg kl 27 (d27) p.1 p.2 := by
  obtain ⟨fdd, F0⟩ := c.def_ 27 (d := dd d27) (by first | rfl | kernel_rfl)
  have F : FunD K d27.name d27.name d27.params d27.body d27.scope [] [] (He.fAd K (d27.name, none)) fdd := F0
  refine ⟨(_, fdd), F, He.glo_ok X G (c.fact 27 (f := .glo d27.name) (by first | rfl | kernel_rfl)), F.bindsN (ps := d27.ps) fun _ _ _ _ _ _ us hl => match us, hl with | [_, _], _ => rfl, fun ks js hm => ?_⟩
  exact absurd hm (by simp [kl])
theorem at28 {K : PySem.W.Frag} {h : Heap} {mg : Str → Option Value} (X : K.In h) (G : h.Ns mainGlobals mg) (c : He.SaysD fa fn K) : ∃ p : Addr × FuncData, PD.At K mg kl 28 (d28) p.1 p.2 := by
  obtain ⟨fdd, F0⟩ := c.def_ 28 (d := dd d28) (by first | rfl | kernel_rfl)
  have F : FunD K d28.name d28.name d28.params d28.body d28.scope [] [] (He.fAd K (d28.name, none)) fdd := F0
  refine ⟨(_, fdd), F, He.glo_ok X G (c.fact 28 (f := .glo d28.name) (by first | rfl | kernel_rfl)), F.bindsN (ps := d28.ps) fun _ _ _ _ _ _ us hl => match us, hl with | [_, _], _ => rfl, fun ks js hm => ?_⟩
  exact absurd hm (by simp [kl])
theorem at29 {K : PySem.W.Frag} {h : Heap} {mg : Str → Option Value} (X : K.In h) (G : h.Ns mainGlobals mg) (c : He.SaysD fa fn K) : ∃ p : Addr × FuncData, PD.At K mg kl 29 (d29) p.1 p.2 := by
  obtain ⟨fdd, F0⟩ := c.def_ 29 (d := dd d29) (by first | rfl | kernel_rfl)
  have F : FunD K d29.name d29.name d29.params d29.body d29.scope [] [] (He.fAd K (d29.name, none)) fdd := F0
  refine ⟨(_, fdd), F, He.glo_ok X G (c.fact 29 (f := .glo d29.name) (by first | rfl | kernel_rfl)), F.bindsN (ps := d29.ps) fun _ _ _ _ _ _ us hl => match us, hl with | [_, _], _ => rfl, fun ks js hm => ?_⟩
  exact absurd hm (by simp [kl])
theorem at30 {K : PySem.W.Frag} {h : Heap} {mg : Str → Option Value} (X : K.In h) (G : h.Ns mainGlobals mg) (c : He.SaysD fa fn K) : ∃ p : Addr × FuncData, PD.At K mg kl 30 (d30) p.1 p.2 := by
  obtain ⟨fdd, F0⟩ := c.def_ 30 (d := dd d30) (by first | rfl | kernel_rfl)
  have F : FunD K d30.name d30.name d30.params d30.body d30.scope [] [] (He.fAd K (d30.name, none)) fdd := F0
  refine ⟨(_, fdd), F, He.glo_ok X G (c.fact 30 (f := .glo d30.name) (by first | rfl | kernel_rfl)), F.bindsN (ps := d30.ps) fun _ _ _ _ _ _ us hl => match us, hl with | [_, _], _ => rfl, fun ks js hm => ?_⟩
  exact absurd hm (by simp [kl])
theorem at31 {K : PySem.W.Frag} {h : Heap} {mg : Str → Option Value} (X : K.In h) (G : h.Ns mainGlobals mg) (c : He.SaysD fa fn K) : ∃ p : Addr × FuncData, PD.At K mg kl 31 (d31) p.1 p.2 := by
  obtain ⟨fdd, F0⟩ := c.def_ 31 (d := dd d31) (by first | rfl | kernel_rfl)
  have F : FunD K d31.name d31.name d31.params d31.body d31.scope [] [] (He.fAd K (d31.name, none)) fdd := F0
  refine ⟨(_, fdd), F, He.glo_ok X G (c.fact 31 (f := .glo d31.name) (by first | rfl | kernel_rfl)), F.bindsN (ps := d31.ps) fun _ _ _ _ _ _ us hl => match us, hl with | [_], _ => rfl, fun ks js hm => ?_⟩
  exact absurd hm (by simp [kl])
theorem at32 {K : PySem.W.Frag} {h : Heap} {mg : Str → Option Value} (X : K.In h) (G : h.Ns mainGlobals mg) (c : He.SaysD fa fn K) : ∃ p : Addr × FuncData, PD.At K mg kl 32 (d32) p.1 p.2 := by
  obtain ⟨fdd, F0⟩ := c.def_ 32 (d := dd d32) (by first | rfl | kernel_rfl)
  have F : FunD K d32.name d32.name d32.params d32.body d32.scope [] [] (He.fAd K (d32.name, none)) fdd := F0
  refine ⟨(_, fdd), F, He.glo_ok X G (c.fact 32 (f := .glo d32.name) (by first | rfl | kernel_rfl)), F.bindsN (ps := d32.ps) fun _ _ _ _ _ _ us hl => match us, hl with | [_, _], _ => rfl, fun ks js hm => ?_⟩
  exact absurd hm (by simp [kl])
theorem at33 {K : PySem.W.Frag} {h : Heap} {mg : Str → Option Value} (X : K.In h) (G : h.Ns mainGlobals mg) (c : He.SaysD fa fn K) : ∃ p : Addr × FuncData, PD.At K mg kl 33 (d33) p.1 p.2 := by
  obtain ⟨fdd, F0⟩ := c.def_ 33 (d := dd d33) (by first | rfl | kernel_rfl)
  have F : FunD K d33.name d33.name d33.params d33.body d33.scope [] [] (He.fAd K (d33.name, none)) fdd := F0
  refine ⟨(_, fdd), F, He.glo_ok X G (c.fact 33 (f := .glo d33.name) (by first | rfl | kernel_rfl)), F.bindsN (ps := d33.ps) fun _ _ _ _ _ _ us hl => match us, hl with | [_, _], _ => rfl, fun ks js hm => ?_⟩
  exact absurd hm (by simp [kl])
theorem at34 {K : PySem.W.Frag} {h : Heap} {mg : Str → Option Value} (X : K.In h) (G : h.Ns mainGlobals mg) (c : He.SaysD fa fn K) : ∃ p : Addr × FuncData, PD.At K mg kl 34 (d34) p.1 p.2 := by
  obtain ⟨fdd, F0⟩ := c.def_ 34 (d := dd d34) (by first | rfl | kernel_rfl)
  have F : FunD K d34.name d34.name d34.params d34.body d34.scope [] [] (He.fAd K (d34.name, none)) fdd := F0
  refine ⟨(_, fdd), F, He.glo_ok X G (c.fact 34 (f := .glo d34.name) (by first | rfl | kernel_rfl)), F.bindsN (ps := d34.ps) fun _ _ _ _ _ _ us hl => match us, hl with | [_, _], _ => rfl, fun ks js hm => ?_⟩
  exact absurd hm (by simp [kl])
theorem at35 {K : PySem.W.Frag} {h : Heap} {mg : Str → Option Value} (X : K.In h) (G : h.Ns mainGlobals mg) (c : He.SaysD fa fn K) : ∃ p : Addr × FuncData, PD.At K mg kl 35 (d35) p.1 p.2 := by
  obtain ⟨fdd, F0⟩ := c.def_ 35 (d := dd d35) (by first | rfl | kernel_rfl)
  have F : FunD K d35.name d35.name d35.params d35.body d35.scope [] [] (He.fAd K (d35.name, none)) fdd := F0
  refine ⟨(_, fdd), F, He.glo_ok X G (c.fact 35 (f := .glo d35.name) (by first | rfl | kernel_rfl)), F.bindsN (ps := d35.ps) fun _ _ _ _ _ _ us hl => match us, hl with | [_, _], _ => rfl, fun ks js hm => ?_⟩
  exact absurd hm (by simp [kl])
theorem at36 {K : PySem.W.Frag} {h : Heap} {mg : Str → Option Value} (X : K.In h) (G : h.Ns mainGlobals mg) (c : He.SaysD fa fn K) : ∃ p : Addr × FuncData, PD.At K mg kl 36 (d36) p.1 p.2 := by
  obtain ⟨fdd, F0⟩ := c.def_ 36 (d := dd d36) (by first | rfl | kernel_rfl)
  have F : FunD K d36.name d36.name d36.params d36.body d36.scope [] [] (He.fAd K (d36.name, none)) fdd := F0
  refine ⟨(_, fdd), F, He.glo_ok X G (c.fact 36 (f := .glo d36.name) (by first | rfl | kernel_rfl)), F.bindsN (ps := d36.ps) fun _ _ _ _ _ _ us hl => match us, hl with | [_, _], _ => rfl, fun ks js hm => ?_⟩
  exact absurd hm (by simp [kl])
theorem at37 {K : PySem.W.Frag} {h : Heap} {mg : Str → Option Value} (X : K.In h) (G : h.Ns mainGlobals mg) (c : He.SaysD fa fn K) : ∃ p : Addr × FuncData, PD.At K mg kl 37 (d37) p.1 p.2 := by
  obtain ⟨fdd, F0⟩ := c.def_ 37 (d := dd d37) (by first | rfl | kernel_rfl)
  have F : FunD K d37.name d37.name d37.params d37.body d37.scope [] [] (He.fAd K (d37.name, none)) fdd := F0
  refine ⟨(_, fdd), F, He.glo_ok X G (c.fact 37 (f := .glo d37.name) (by first | rfl | kernel_rfl)), F.bindsN (ps := d37.ps) fun _ _ _ _ _ _ us hl => match us, hl with | [_, _, _, _], _ => rfl, fun ks js hm => ?_⟩
  exact absurd hm (by simp [kl])
theorem at38 {K : PySem.W.Frag} {h : Heap} {mg : Str → Option Value} (X : K.In h) (G : h.Ns mainGlobals mg) (c : He.SaysD fa fn K) : ∃ p : Addr × FuncData, PD.At K mg kl 38 (d38) p.1 p.2 := by
  obtain ⟨fdd, F0⟩ := c.def_ 38 (d := dd d38) (by first | rfl | kernel_rfl)
  have F : FunD K d38.name d38.name d38.params d38.body d38.scope [] [] (He.fAd K (d38.name, none)) fdd := F0
  refine ⟨(_, fdd), F, He.glo_ok X G (c.fact 38 (f := .glo d38.name) (by first | rfl | kernel_rfl)), F.bindsN (ps := d38.ps) fun _ _ _ _ _ _ us hl => match us, hl with | [_, _, _], _ => rfl, fun ks js hm => ?_⟩
  exact absurd hm (by simp [kl])
theorem at39 {K : PySem.W.Frag} {h : Heap} {mg : Str → Option Value} (X : K.In h) (G : h.Ns mainGlobals mg) (c : He.SaysD fa fn K) : ∃ p : Addr × FuncData, PD.At K mg kl 39 (d39) p.1 p.2 := by
  obtain ⟨fdd, F0⟩ := c.def_ 39 (d := dd d39) (by first | rfl | kernel_rfl)
  have F : FunD K d39.name d39.name d39.params d39.body d39.scope [] [] (He.fAd K (d39.name, none)) fdd := F0
  refine ⟨(_, fdd), F, He.glo_ok X G (c.fact 39 (f := .glo d39.name) (by first | rfl | kernel_rfl)), F.bindsN (ps := d39.ps) fun _ _ _ _ _ _ us hl => match us, hl with | [_, _], _ => rfl, fun ks js hm => ?_⟩
  exact absurd hm (by simp [kl])
theorem at40 {K : PySem.W.Frag} {h : Heap} {mg : Str → Option Value} (X : K.In h) (G : h.Ns mainGlobals mg) (c : He.SaysD fa fn K) : ∃ p : Addr × FuncData, PD.At K mg kl 40 (d40) p.1 p.2 := by
  obtain ⟨fdd, F0⟩ := c.def_ 40 (d := dd d40) (by first | rfl | kernel_rfl)
  have F : FunD K d40.name d40.name d40.params d40.body d40.scope [] [] (He.fAd K (d40.name, none)) fdd := F0
  refine ⟨(_, fdd), F, He.glo_ok X G (c.fact 40 (f := .glo d40.name) (by first | rfl | kernel_rfl)), F.bindsN (ps := d40.ps) fun _ _ _ _ _ _ us hl => match us, hl with | [_], _ => rfl, fun ks js hm => ?_⟩
  exact absurd hm (by simp [kl])
theorem at41 {K : PySem.W.Frag} {h : Heap} {mg : Str → Option Value} (X : K.In h) (G : h.Ns mainGlobals mg) (c : He.SaysD fa fn K) : ∃ p : Addr × FuncData, PD.At K mg kl 41 (d41) p.1 p.2 := by
  obtain ⟨fdd, F0⟩ := c.def_ 41 (d := dd d41) (by first | rfl | kernel_rfl)
  have F : FunD K d41.name d41.name d41.params d41.body d41.scope [] [] (He.fAd K (d41.name, none)) fdd := F0
  refine ⟨(_, fdd), F, He.glo_ok X G (c.fact 41 (f := .glo d41.name) (by first | rfl | kernel_rfl)), F.bindsN (ps := d41.ps) fun _ _ _ _ _ _ us hl => match us, hl with | [_, _, _], _ => rfl, fun ks js hm => ?_⟩
  exact absurd hm (by simp [kl])
theorem at42 {K : PySem.W.Frag} {h : Heap} {mg : Str → Option Value} (X : K.In h) (G : h.Ns mainGlobals mg) (c : He.SaysD fa fn K) : ∃ p : Addr × FuncData, PD.At K mg kl 42 (d42) p.1 p.2 := by
  obtain ⟨fdd, F0⟩ := c.def_ 42 (d := dd d42) (by first | rfl | kernel_rfl)
  have F : FunD K d42.name d42.name d42.params d42.body d42.scope [] [] (He.fAd K (d42.name, none)) fdd := F0
  refine ⟨(_, fdd), F, He.glo_ok X G (c.fact 42 (f := .glo d42.name) (by first | rfl | kernel_rfl)), F.bindsN (ps := d42.ps) fun _ _ _ _ _ _ us hl => match us, hl with | [_, _], _ => rfl, fun ks js hm => ?_⟩
  exact absurd hm (by simp [kl])
theorem at43 {K : PySem.W.Frag} {h : Heap} {mg : Str → Option Value} (X : K.In h) (G : h.Ns mainGlobals mg) (c : He.SaysD fa fn K) : ∃ p : Addr × FuncData, PD.At K mg kl 43 (d43) p.1 p.2 := by
  obtain ⟨fdd, F0⟩ := c.def_ 43 (d := dd d43) (by first | rfl | kernel_rfl)
  have F : FunD K d43.name d43.name d43.params d43.body d43.scope [] [] (He.fAd K (d43.name, none)) fdd := F0
  refine ⟨(_, fdd), F, He.glo_ok X G (c.fact 43 (f := .glo d43.name) (by first | rfl | kernel_rfl)), F.bindsN (ps := d43.ps) fun _ _ _ _ _ _ us hl => match us, hl with | [_, _, _], _ => rfl, fun ks js hm => ?_⟩
  exact absurd hm (by simp [kl])
theorem at44 {K : PySem.W.Frag} {h : Heap} {mg : Str → Option Value} (X : K.In h) (G : h.Ns mainGlobals mg) (c : He.SaysD fa fn K) : ∃ p : Addr × FuncData, PD.At K mg kl 44 (d44) p.1 p.2 := by
  obtain ⟨fdd, F0⟩ := c.def_ 44 (d := dd d44) (by first | rfl | kernel_rfl)
  have F : FunD K d44.name d44.name d44.params d44.body d44.scope [] [] (He.fAd K (d44.name, none)) fdd := F0
  refine ⟨(_, fdd), F, He.glo_ok X G (c.fact 44 (f := .glo d44.name) (by first | rfl | kernel_rfl)), F.bindsN (ps := d44.ps) fun _ _ _ _ _ _ us hl => match us, hl with | [_, _, _], _ => rfl, fun ks js hm => ?_⟩
  exact absurd hm (by simp [kl])
theorem at45 {K : PySem.W.Frag} {h : Heap} {mg : Str → Option Value} (X : K.In h) (G : h.Ns mainGlobals mg) (c : He.SaysD fa fn K) : ∃ p : Addr × FuncData, PD.At K mg kl 45 (d45) p.1 p.2 := by
  obtain ⟨fdd, F0⟩ := c.def_ 45 (d := dd d45) (by first | rfl | kernel_rfl)
  have F : FunD K d45.name d45.name d45.params d45.body d45.scope [] [] (He.fAd K (d45.name, none)) fdd := F0
  refine ⟨(_, fdd), F, He.glo_ok X G (c.fact 45 (f := .glo d45.name) (by first | rfl | kernel_rfl)), F.bindsN (ps := d45.ps) fun _ _ _ _ _ _ us hl => match us, hl with | [_, _, _], _ => rfl, fun ks js hm => ?_⟩
  exact absurd hm (by simp [kl])
theorem at46 {K : PySem.W.Frag} {h : Heap} {mg : Str → Option Value} (X : K.In h) (G : h.Ns mainGlobals mg) (c : He.SaysD fa fn K) : ∃ p : Addr × FuncData, PD.At K mg kl 46 (d46) p.1 p.2 := by
  obtain ⟨fdd, F0⟩ := c.def_ 46 (d := dd d46) (by first | rfl | kernel_rfl)
  have F : FunD K d46.name d46.name d46.params d46.body d46.scope [] [] (He.fAd K (d46.name, none)) fdd := F0
  refine ⟨(_, fdd), F, He.glo_ok X G (c.fact 46 (f := .glo d46.name) (by first | rfl | kernel_rfl)), F.bindsN (ps := d46.ps) fun _ _ _ _ _ _ us hl => match us, hl with | [_, _, _], _ => rfl, fun ks js hm => ?_⟩
  exact absurd hm (by simp [kl])
theorem at47 {K : PySem.W.Frag} {h : Heap} {mg : Str → Option Value} (X : K.In h) (G : h.Ns mainGlobals mg) (c : He.SaysD fa fn K) : ∃ p : Addr × FuncData, PD.At K mg kl 47 (d47) p.1 p.2 := by
  obtain ⟨fdd, F0⟩ := c.def_ 47 (d := dd d47) (by first | rfl | kernel_rfl)
  have F : FunD K d47.name d47.name d47.params d47.body d47.scope [] [] (He.fAd K (d47.name, none)) fdd := F0
  refine ⟨(_, fdd), F, He.glo_ok X G (c.fact 47 (f := .glo d47.name) (by first | rfl | kernel_rfl)), F.bindsN (ps := d47.ps) fun _ _ _ _ _ _ us hl => match us, hl with | [_], _ => rfl, fun ks js hm => ?_⟩
  exact absurd hm (by simp [kl])
theorem ats {K : PySem.W.Frag} {h : Heap} {mg : Str → Option Value} (X : K.In h) (G : h.Ns mainGlobals mg) (c : He.SaysD fa fn K) : ∀ i : Nat, ∃ p : Addr × FuncData, ∀ d, tab[i]? = some d → PD.At K mg kl i d p.1 p.2
  | 0 => by obtain ⟨p, a⟩ := at0 X G c; exact ⟨p, fun d e => by cases e; exact a⟩
  | 1 => by obtain ⟨p, a⟩ := at1 X G c; exact ⟨p, fun d e => by cases e; exact a⟩
  | 2 => by obtain ⟨p, a⟩ := at2 X G c; exact ⟨p, fun d e => by cases e; exact a⟩
  | 3 => by obtain ⟨p, a⟩ := at3 X G c; exact ⟨p, fun d e => by cases e; exact a⟩
  | 4 => by obtain ⟨p, a⟩ := at4 X G c; exact ⟨p, fun d e => by cases e; exact a⟩
  | 5 => by obtain ⟨p, a⟩ := at5 X G c; exact ⟨p, fun d e => by cases e; exact a⟩
  | 6 => by obtain ⟨p, a⟩ := at6 X G c; exact ⟨p, fun d e => by cases e; exact a⟩
  | 7 => by obtain ⟨p, a⟩ := at7 X G c; exact ⟨p, fun d e => by cases e; exact a⟩
  | 8 => by obtain ⟨p, a⟩ := at8 X G c; exact ⟨p, fun d e => by cases e; exact a⟩
  | 9 => by obtain ⟨p, a⟩ := at9 X G c; exact ⟨p, fun d e => by cases e; exact a⟩
  | 10 => by obtain ⟨p, a⟩ := at10 X G c; exact ⟨p, fun d e => by cases e; exact a⟩
  | 11 => by obtain ⟨p, a⟩ := at11 X G c; exact ⟨p, fun d e => by cases e; exact a⟩
  | 12 => by obtain ⟨p, a⟩ := at12 X G c; exact ⟨p, fun d e => by cases e; exact a⟩
  | 13 => by obtain ⟨p, a⟩ := at13 X G c; exact ⟨p, fun d e => by cases e; exact a⟩
  | 14 => by obtain ⟨p, a⟩ := at14 X G c; exact ⟨p, fun d e => by cases e; exact a⟩
  | 15 => by obtain ⟨p, a⟩ := at15 X G c; exact ⟨p, fun d e => by cases e; exact a⟩
  | 16 => by obtain ⟨p, a⟩ := at16 X G c; exact ⟨p, fun d e => by cases e; exact a⟩
  | 17 => by obtain ⟨p, a⟩ := at17 X G c; exact ⟨p, fun d e => by cases e; exact a⟩
  | 18 => by obtain ⟨p, a⟩ := at18 X G c; exact ⟨p, fun d e => by cases e; exact a⟩
  | 19 => by obtain ⟨p, a⟩ := at19 X G c; exact ⟨p, fun d e => by cases e; exact a⟩
  | 20 => by obtain ⟨p, a⟩ := at20 X G c; exact ⟨p, fun d e => by cases e; exact a⟩
  | 21 => by obtain ⟨p, a⟩ := at21 X G c; exact ⟨p, fun d e => by cases e; exact a⟩
  | 22 => by obtain ⟨p, a⟩ := at22 X G c; exact ⟨p, fun d e => by cases e; exact a⟩
  | 23 => by obtain ⟨p, a⟩ := at23 X G c; exact ⟨p, fun d e => by cases e; exact a⟩
  | 24 => by obtain ⟨p, a⟩ := at24 X G c; exact ⟨p, fun d e => by cases e; exact a⟩
  | 25 => by obtain ⟨p, a⟩ := at25 X G c; exact ⟨p, fun d e => by cases e; exact a⟩
  | 26 => by obtain ⟨p, a⟩ := at26 X G c; exact ⟨p, fun d e => by cases e; exact a⟩
  | 27 => by obtain ⟨p, a⟩ := at27 X G c; exact ⟨p, fun d e => by cases e; exact a⟩
  | 28 => by obtain ⟨p, a⟩ := at28 X G c; exact ⟨p, fun d e => by cases e; exact a⟩
  | 29 => by obtain ⟨p, a⟩ := at29 X G c; exact ⟨p, fun d e => by cases e; exact a⟩
  | 30 => by obtain ⟨p, a⟩ := at30 X G c; exact ⟨p, fun d e => by cases e; exact a⟩
  | 31 => by obtain ⟨p, a⟩ := at31 X G c; exact ⟨p, fun d e => by cases e; exact a⟩
  | 32 => by obtain ⟨p, a⟩ := at32 X G c; exact ⟨p, fun d e => by cases e; exact a⟩
  | 33 => by obtain ⟨p, a⟩ := at33 X G c; exact ⟨p, fun d e => by cases e; exact a⟩
  | 34 => by obtain ⟨p, a⟩ := at34 X G c; exact ⟨p, fun d e => by cases e; exact a⟩
  | 35 => by obtain ⟨p, a⟩ := at35 X G c; exact ⟨p, fun d e => by cases e; exact a⟩
  | 36 => by obtain ⟨p, a⟩ := at36 X G c; exact ⟨p, fun d e => by cases e; exact a⟩
  | 37 => by obtain ⟨p, a⟩ := at37 X G c; exact ⟨p, fun d e => by cases e; exact a⟩
  | 38 => by obtain ⟨p, a⟩ := at38 X G c; exact ⟨p, fun d e => by cases e; exact a⟩
  | 39 => by obtain ⟨p, a⟩ := at39 X G c; exact ⟨p, fun d e => by cases e; exact a⟩
  | 40 => by obtain ⟨p, a⟩ := at40 X G c; exact ⟨p, fun d e => by cases e; exact a⟩
  | 41 => by obtain ⟨p, a⟩ := at41 X G c; exact ⟨p, fun d e => by cases e; exact a⟩
  | 42 => by obtain ⟨p, a⟩ := at42 X G c; exact ⟨p, fun d e => by cases e; exact a⟩
  | 43 => by obtain ⟨p, a⟩ := at43 X G c; exact ⟨p, fun d e => by cases e; exact a⟩
  | 44 => by obtain ⟨p, a⟩ := at44 X G c; exact ⟨p, fun d e => by cases e; exact a⟩
  | 45 => by obtain ⟨p, a⟩ := at45 X G c; exact ⟨p, fun d e => by cases e; exact a⟩
  | 46 => by obtain ⟨p, a⟩ := at46 X G c; exact ⟨p, fun d e => by cases e; exact a⟩
  | 47 => by obtain ⟨p, a⟩ := at47 X G c; exact ⟨p, fun d e => by cases e; exact a⟩
  | n + 48 => ⟨(0, default), fun d e => by cases e⟩
theorem tab_ok : ∀ d ∈ tab, d.chk tab kl = true := by
  have h : (tab.all fun d => d.chk tab kl) = true := by kernel_rfl
  exact List.all_eq_true.mp h
theorem blts {K : PySem.W.Frag} {h : Heap} {mg : Str → Option Value} (X : K.In h) (G : h.Ns mainGlobals mg) (c : He.SaysD fa fn K) : ∀ n ∈ bltNames, mg n = none := by
  intro n hn
  obtain ⟨j, hj⟩ := List.getElem?_of_mem hn
  have h1 : fa[48 + j]? = some (He.Fa.free n) := by
    have h2 : (tab.map fun d => He.Fa.glo d.name).length = 48 := by rw [List.length_map]; rfl
    rw [fa, List.getElem?_append_right (by rw [h2]; exact Nat.le_add_right _ _), h2, Nat.add_sub_cancel_left, List.getElem?_map, hj]; rfl
  exact He.free_ok X G (c.fact _ h1)
theorem facts {P : Program} {w : World} {K : PySem.W.Frag} {h : Heap} {mg : Str → Option Value} {f : Addr} (X : K.In h) (G : h.Ns mainGlobals mg) (hfa : mg ("law" : Str) = some (.ref f)) (c : He.SaysD fa fn K) :
    ∃ fd : FuncData, (∀ (s : Shared) (v : Value), BindsTo s fd ⟨[v], []⟩ [("script", v)]) ∧ ∀ base : Heap, K.In base → base.Ns mainGlobals mg → FnG P w K mg base CX0 60 f fd ["script"] (spD K 1 (evF prog 60 47)) := by
  obtain ⟨g, hg⟩ := Classical.axiomOfChoice (ats X G c)
  have A := hg 47 d47 rfl
  have e := hfa.symm.trans A.mgf
  have e2 : f = (g 47).1 := by cases e; rfl
  subst e2
  have b := FunD.bindsA (ps := ["script"]) A.fn fun _ _ _ _ _ _ us hl => match us, hl with | [_], _ => rfl
  refine ⟨(g 47).2, fun s v => b s [v] rfl, fun base _ _ => ?_⟩
  exact prog_ok (tab := tab) (kl := kl) (ad := fun i => (g i).1) (fs := fun i => (g i).2) tab_ok (fun i d hd => hg i d hd) (blts X G c) 60 47 d47 rfl
end K81
open PySem PySem.W PySem.Calls PyProof.Rows
theorem holds_of (hlaw : ∀ ns : List Int, ns.length ≤ 63 → ∃ outs, OE.evF K81.prog 60 47 [.scr ns] = some (.bl true, outs)) : PySem.Challenge.rw_pastvotes_k81_whole_brings_and_chains.Holds := by
  w_on; o_law
  refine HandSHeadRun.head_any (r := OpenLaw.row PySem.Challenge.rw_pastvotes_k81_whole_brings_and_chains) (q := view (OpenLaw.row PySem.Challenge.rw_pastvotes_k81_whole_brings_and_chains).prog [56]) (H := K81.hk) (ob := K81.ob) (M := 9000) (loose := K81.loose) (d := HandSHeadRun.topDef (OpenLaw.row PySem.Challenge.rw_pastvotes_k81_whole_brings_and_chains).prog 56) (kwd := []) K81.ob_eq
    (by kernel_rfl) (fun s => by kernel_rfl) K81.run (by kernel_rfl) (by kernel_rfl) (by kernel_rfl) (by rfl) (by first | assumption | decide +kernel) (by decide +kernel) ⟨rfl, rfl, rfl, rfl, rfl, by decide +kernel⟩ ?hw ?hc
  case hw => w_witness2
  case hc =>
    refine OE.walkG (l := PySem.Challenge.rw_pastvotes_k81_whole_brings_and_chains) (n := 63) (k := 60) (x := "script") (CX := L2.CX0) rfl (by decide) (by kernel_rfl) ⟨rfl, by decide, by decide⟩ ?F (fun _ _ _ _ z => z)
    intro w mg fa h Y G hmg0
    obtain ⟨K, KX, c⟩ := Y
    have hmg : mg ("law" : PySem.Str) = some (.ref fa) := by
      have e : (HandSHeadRun.topDef (OpenLaw.row PySem.Challenge.rw_pastvotes_k81_whole_brings_and_chains).prog 56).name = ("law" : PySem.Str) := by kernel_rfl
      rw [← e]
      exact hmg0
    obtain ⟨fd, hb, hF⟩ := K81.facts (P := (PySem.Challenge.rw_pastvotes_k81_whole_brings_and_chains).prog) (w := w) KX G hmg c
    exact ⟨K, fd, _, KX, hb, fun H a ns hl ho hS => OE.law_sp hlaw H a ns hl ho hS, hF⟩

end
theorem PySem.Challenge.cw_pastvotes_k81_whole_brings_and_chains_holds : PySem.Challenge.rw_pastvotes_k81_whole_brings_and_chains.Holds :=
  holds_of fun ns _ => K81.law_ok 51 ns
