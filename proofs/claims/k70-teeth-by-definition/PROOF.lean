import PyProof.Rows.All
import Wide.All
import OpenK.AllK
import Wide.FinOn
import HandS.ForExc
import HandS.ExcCtx
import HandS.ExcOwn
import HandS.CallSlots
import HandS.Defaults
import HandS.Wide
import HandS.WideBits
import HandS.Style
import HandS.TupAny
import HandS.Text
import HandS.Gcd
import HandS.Iter
import HandS.TryOnly
import KE.KExcSuper
import HandS.ExcInit
import HandS.RaiseMore
import HandS.HotCalls
import HandS.ExcInitHot
import HandS.ExcField
import HandS.ExcIs
import HandS.IsInst
import KE.KExcIs
import HandS.Head0
import HandS.Head1
import HandS.Head2
import HandS.Head3
import HandS.HeadEnd
import HandS.HeadHook1
import HandS.HeadHook2
import HandS.EndBits
import KE.KStateDown
import HandS.ExcBuiltin
import PySem.Challenge.RW_goodturns_k70_teeth_by_definition

section PartPD1
set_option Elab.async false
set_option linter.all false
set_option maxRecDepth 100000
set_option maxHeartbeats 4000000
/-! Plain data over the hand layer: trees, states, steps. -/
namespace PD
open PySem L2

/-- who may touch an object: nobody (shared) | the slot alone | lent to this call | locked while a loop walks it -/
inductive Fl where
  | sh | ow | ln | lk
  deriving DecidableEq
inductive Kd where
  | lst | tup | fro | ins (c : Nat)
  deriving DecidableEq
/-- a tree of data: a plain value, an object with its parts, the object that slot i owns -/
inductive T where
  | sc (v : V)
  | nd (f : Fl) (k : Kd) (xs : List T)
  | rf (i : Nat)

/-- what is known of the program's own classes -/
structure Gam where
  K : PySem.W.Frag
  cls : Nat → Addr
  flds : Nat → List Str

/-- an object of kind k with the parts vs stands at a, to be read -/
def ShC (G : Gam) (B : Hp) (a : Addr) (vs : List V) : Kd → Prop
  | .lst => B a = some (.lst vs)
  | .fro => SqL G.K B a vs
  | .tup => SqT G.K B a vs
  | .ins c => ∃ dx, B a = some (.ins (G.cls c) dx ((G.flds c).zip vs)) ∧ vs.length ≤ (G.flds c).length
/-- the same, to be written -/
def OwC (G : Gam) (H : Hp) (a : Addr) (vs : List V) : Kd → Prop
  | .lst => H a = some (.lst vs)
  | .tup => False
  | .fro => False
  | .ins c => ∃ dx, H a = some (.ins (G.cls c) dx ((G.flds c).zip vs)) ∧ vs.length ≤ (G.flds c).length
theorem sqT_mono {K : PySem.W.Frag} {H H' : Hp} {a : Addr} {xs : List V} (e : Same H H') (h : SqT K H a xs) : SqT K H' a xs := by
  rcases h with (h | ⟨o, h⟩) | h
  · exact .inl (.inl (e _ _ h))
  · exact .inl (.inr ⟨o, e _ _ h⟩)
  · exact .inr h
theorem ShC.mono {G : Gam} {B B' : Hp} {a : Addr} {vs : List V} {k : Kd} (e : Same B B') (h : ShC G B a vs k) : ShC G B' a vs k := by
  cases k with
  | lst => exact e _ _ h
  | fro => exact e.seq h
  | tup => exact sqT_mono e h
  | ins c =>
    obtain ⟨dx, h1, h2⟩ := h
    exact ⟨dx, e _ _ h1, h2⟩

mutual
def SRep (G : Gam) (B : Hp) : V → T → Prop
  | v, .sc u => v = u
  | v, .nd f k xs => f = .sh ∧ ∃ a vs, v = .ref a ∧ ShC G B a vs k ∧ SRepL G B vs xs
  | _, .rf _ => False
def SRepL (G : Gam) (B : Hp) : List V → List T → Prop
  | [], [] => True
  | v :: vs, t :: ts => SRep G B v t ∧ SRepL G B vs ts
  | _, _ => False
end
mutual
theorem SRep.mono {G : Gam} {B B' : Hp} (e : Same B B') : ∀ (v : V) (t : T), SRep G B v t → SRep G B' v t
  | _, .sc _, h => h
  | _, .nd _ _ xs, h => by
    obtain ⟨h1, a, vs, h2, h3, h4⟩ := h
    exact ⟨h1, a, vs, h2, h3.mono e, SRepL.mono e vs xs h4⟩
  | _, .rf _, h => h
theorem SRepL.mono {G : Gam} {B B' : Hp} (e : Same B B') : ∀ (vs : List V) (ts : List T), SRepL G B vs ts → SRepL G B' vs ts
  | [], [], _ => trivial
  | v :: vs, t :: ts, h => ⟨SRep.mono e v t h.1, SRepL.mono e vs ts h.2⟩
  | [], _ :: _, h => h
  | _ :: _, [], h => h
end
theorem SRepL.length {G : Gam} {B : Hp} : ∀ {vs : List V} {ts : List T}, SRepL G B vs ts → vs.length = ts.length
  | [], [], _ => rfl
  | v :: vs, t :: ts, h => by rw [List.length_cons, List.length_cons, SRepL.length h.2]
  | [], _ :: _, h => h.elim
  | _ :: _, [], h => h.elim
theorem SRepL.get {G : Gam} {B : Hp} : ∀ {vs : List V} {ts : List T} {i : Nat} {t : T}, SRepL G B vs ts → ts[i]? = some t → ∃ v, vs[i]? = some v ∧ SRep G B v t
  | [], [], _, _, _, e => by simp at e
  | v :: vs, t :: ts, 0, _, h, e => by
    simp at e
    exact ⟨v, rfl, e ▸ h.1⟩
  | v :: vs, t :: ts, i + 1, _, h, e => by
    obtain ⟨u, h1, h2⟩ := SRepL.get (i := i) h.2 (by simpa using e)
    exact ⟨u, by simpa using h1, h2⟩
  | [], _ :: _, _, _, h, _ => h.elim
  | _ :: _, [], _, _, h, _ => h.elim
theorem SRepL.append {G : Gam} {B : Hp} : ∀ {vs ws : List V} {ts us : List T}, SRepL G B vs ts → SRepL G B ws us → SRepL G B (vs ++ ws) (ts ++ us)
  | [], _, [], _, _, h => h
  | _ :: _, _, _ :: _, _, h, q => ⟨h.1, SRepL.append h.2 q⟩
  | [], _, _ :: _, _, h, _ => h.elim
  | _ :: _, _, [], _, h, _ => h.elim
theorem SRepL.set {G : Gam} {B : Hp} {v : V} {t : T} (q : SRep G B v t) : ∀ {vs : List V} {ts : List T} (i : Nat), SRepL G B vs ts → SRepL G B (vs.set i v) (ts.set i t)
  | [], [], _, _ => trivial
  | _ :: _, _ :: _, 0, h => ⟨q, h.2⟩
  | _ :: _, _ :: _, i + 1, h => ⟨h.1, SRepL.set q i h.2⟩
  | [], _ :: _, _, h => h.elim
  | _ :: _, [], _, h => h.elim
theorem SRepL.take {G : Gam} {B : Hp} : ∀ {vs : List V} {ts : List T} (i : Nat), SRepL G B vs ts → SRepL G B (vs.take i) (ts.take i)
  | [], [], _, _ => by simp [SRepL]
  | _ :: _, _ :: _, 0, h => by simp [SRepL]
  | _ :: _, _ :: _, i + 1, h => ⟨h.1, SRepL.take i h.2⟩
  | [], _ :: _, _, h => h.elim
  | _ :: _, [], _, h => h.elim
theorem SRepL.drop {G : Gam} {B : Hp} : ∀ {vs : List V} {ts : List T} (i : Nat), SRepL G B vs ts → SRepL G B (vs.drop i) (ts.drop i)
  | [], [], _, _ => by simp [SRepL]
  | _ :: _, _ :: _, 0, h => h
  | _ :: _, _ :: _, i + 1, h => SRepL.drop i h.2
  | [], _ :: _, _, h => h.elim
  | _ :: _, [], _, h => h.elim
theorem SRepL.reverse {G : Gam} {B : Hp} : ∀ {vs : List V} {ts : List T}, SRepL G B vs ts → SRepL G B vs.reverse ts.reverse
  | [], [], _ => trivial
  | _ :: _, _ :: _, h => by
    rw [List.reverse_cons, List.reverse_cons]
    exact SRepL.append (SRepL.reverse h.2) ⟨h.1, trivial⟩
  | [], _ :: _, h => h.elim
  | _ :: _, [], h => h.elim

/-! ### entries, states -/
/-- a slot (or a value on the way): its value, what is known of it -/
abbrev Ent := Option V × Option T
def owf : Fl → Bool
  | .sh => false
  | _ => true
def adr : Ent → Option Addr
  | (some (.ref a), some (.nd f _ _)) => if owf f then some a else none
  | _ => none
/-- v stands for t: shared data, an object that is owned, the object of slot i of L -/
def Rep (G : Gam) (B H : Hp) (L : List Ent) (v : V) : T → Prop
  | .sc u => v = u
  | .nd f k xs => if owf f then ∃ a vs, v = .ref a ∧ B a = none ∧ OwC G H a vs k ∧ SRepL G B vs xs else SRep G B v (.nd f k xs)
  | .rf i => ∃ f k xs, L[i]? = some (some v, some (.nd f k xs))
def RepO (G : Gam) (B H : Hp) (L : List Ent) : Ent → Prop
  | (some v, some t) => Rep G B H L v t
  | (none, some _) => False
  | (_, none) => True
/-- with a floor: what is known to stand for good -/
structure Gm extends Gam where
  fl : Hp
  pin : Option (Nat × V)
/-- what the slots are known to hold -/
def Gm.P (G : Gm) (σ : L2.St) : Prop := match G.pin with
  | none => True
  | some (i, v) => σ[i]? = some (some v)
def Gm.hit (G : Gm) (j : Nat) : Bool := match G.pin with
  | none => false
  | some (i, _) => i == j
theorem Gm.P.set {G : Gm} {σ : L2.St} (h : G.P σ) {j : Nat} (q : G.hit j = false) (o : Option V) : G.P (σ.set j o) := by
  unfold Gm.P at h ⊢
  unfold Gm.hit at q
  split
  · exact True.intro
  · rename_i i v e
    rw [e] at h q
    have ne : j ≠ i := fun z => by
      subst z
      simp at q
    rw [List.getElem?_set_ne ne]
    exact h
instance : Coe Gm Gam := ⟨Gm.toGam⟩
abbrev Gam.bot (G : Gam) : Gm := ⟨G, fun _ => none, none⟩
structure St (G : Gm) (B H : Hp) (L : List Ent) : Prop where
  sub : Same B H
  rep : ∀ e ∈ L, RepO G B H L e
  sep : L.Pairwise fun e e' => ∀ a, adr e = some a → adr e' ≠ some a
  floor : Same G.fl B
def Own (L : List Ent) (a : Addr) : Prop := ∃ e ∈ L, adr e = some a
/-- may be written -/
def wrf : Fl → Bool
  | .ow => true
  | .ln => true
  | _ => false
def Wr (L : List Ent) (a : Addr) : Prop := ∃ f k xs, (some (V.ref a), some (T.nd f k xs)) ∈ L ∧ wrf f = true
/-- a slot whose object is lent stays -/
def Kept (L L' : List Ent) : Prop := ∀ (i : Nat) (v : V) (f : Fl) (k : Kd) (xs : List T), L[i]? = some (some v, some (.nd f k xs)) → f = .ln ∨ f = .lk → ∃ ys, L'[i]? = some (some v, some (.nd f k ys))
/-- from one state to a later one -/
structure Stp (G : Gm) (B H : Hp) (L : List Ent) (B' H' : Hp) (L' : List Ent) : Prop where
  st : St G B' H' L'
  ex : Same B B'
  fr : ∀ a o, ¬ Wr L a → H a = some o → H' a = some o
  nw : ∀ a, Own L' a → Own L a ∨ H a = none
  ww : ∀ a, Wr L' a → Wr L a ∨ H a = none
  nb : ∀ a, B' a ≠ none → B a ≠ none ∨ Wr L a ∨ H a = none

theorem adr_own {e : Ent} {a : Addr} (h : adr e = some a) : ∃ f k xs, e = (some (.ref a), some (.nd f k xs)) ∧ owf f = true := by
  obtain ⟨v, t⟩ := e
  unfold adr at h
  split at h
  · rename_i b f k xs e1
    cases e1
    by_cases q : owf f = true
    · rw [if_pos q] at h
      cases h
      exact ⟨f, k, xs, rfl, q⟩
    · rw [if_neg q] at h
      cases h
  · cases h
theorem adr_of {a : Addr} {f : Fl} {k : Kd} {xs : List T} (q : owf f = true) : adr (some (.ref a), some (.nd f k xs)) = some a := by
  unfold adr
  exact if_pos q
theorem OwC.there {G : Gam} {H : Hp} {a : Addr} {vs : List V} {k : Kd} (h : OwC G H a vs k) : ∃ o, H a = some o := by
  cases k with
  | lst => exact ⟨_, h⟩
  | tup => exact h.elim
  | fro => exact h.elim
  | ins c =>
    obtain ⟨dx, h1, _⟩ := h
    exact ⟨_, h1⟩
theorem OwC.same {G : Gam} {H H' : Hp} {a : Addr} {vs : List V} {k : Kd} (h : OwC G H a vs k) (e : ∀ o, H a = some o → H' a = some o) : OwC G H' a vs k := by
  cases k with
  | lst => exact e _ h
  | tup => exact h
  | fro => exact h
  | ins c =>
    obtain ⟨dx, h1, h2⟩ := h
    exact ⟨dx, e _ h1, h2⟩
theorem St.own {G : Gm} {B H : Hp} {L : List Ent} (s : St G B H L) {a : Addr} (h : Own L a) : B a = none ∧ ∃ o, H a = some o := by
  obtain ⟨e, he, ha⟩ := h
  obtain ⟨f, k, xs, rfl, q⟩ := adr_own ha
  have r := s.rep _ he
  unfold RepO Rep at r
  simp only [if_pos q] at r
  obtain ⟨b, vs, e1, e2, e3, _⟩ := r
  cases e1
  exact ⟨e2, e3.there⟩
theorem St.free {G : Gm} {B H : Hp} {L : List Ent} (s : St G B H L) {a : Addr} (h : H a = none) : B a = none ∧ ¬ Own L a := by
  refine ⟨s.sub.free h, fun o => ?_⟩
  obtain ⟨_, o, e⟩ := s.own o
  rw [h] at e
  cases e
theorem Stp.refl {G : Gm} {B H : Hp} {L : List Ent} (s : St G B H L) : Stp G B H L B H L where
  st := s
  ex := Same.refl B
  fr := fun _ _ _ h => h
  nw := fun _ h => .inl h
  ww := fun _ h => .inl h
  nb := fun _ h => .inl h
theorem Stp.back {G : Gm} {B H B1 H1 : Hp} {L L1 : List Ent} (p : Stp G B H L B1 H1 L1) {a : Addr} (z : H1 a = none) : Wr L a ∨ H a = none := by
  by_cases n : Wr L a
  · exact .inl n
  · cases e : H a with
    | none => exact .inr rfl
    | some o =>
      rw [p.fr a o n e] at z
      cases z
theorem Wr.own {L : List Ent} {a : Addr} (h : Wr L a) : Own L a := by
  obtain ⟨f, k, xs, hm, hf⟩ := h
  refine ⟨_, hm, adr_of ?_⟩
  cases f <;> first | rfl | cases hf
theorem Stp.trans {G : Gm} {B H B1 H1 B2 H2 : Hp} {L L1 L2 : List Ent} (p : Stp G B H L B1 H1 L1) (q : Stp G B1 H1 L1 B2 H2 L2) : Stp G B H L B2 H2 L2 where
  st := q.st
  ex := p.ex.trans q.ex
  fr := fun a o n h => q.fr a o (fun z => by
    rcases p.ww a z with z | z
    · exact n z
    · rw [h] at z
      cases z) (p.fr a o n h)
  nw := fun a z => by
    rcases q.nw a z with z | z
    · exact p.nw a z
    · rcases p.back z with y | y
      · exact .inl y.own
      · exact .inr y
  ww := fun a z => by
    rcases q.ww a z with z | z
    · exact p.ww a z
    · exact p.back z
  nb := fun a z => by
    rcases q.nb a z with z | z | z
    · exact p.nb a z
    · exact .inr (p.ww a z)
    · exact .inr (p.back z)
theorem Kept.refl (L : List Ent) : Kept L L := fun _ _ _ _ xs h _ => ⟨xs, h⟩
theorem Kept.trans {L L1 L2 : List Ent} (p : Kept L L1) (q : Kept L1 L2) : Kept L L2 := fun i v f k xs h l => by
  obtain ⟨ys, h1⟩ := p i v f k xs h l
  exact q i v f k ys h1 l
/-- a state without its last entry -/
theorem Rep.shorter {G : Gam} {B H : Hp} {L M : List Ent} {v : V} {t : T} (h : Rep G B H (L ++ M) v t) (hr : ∀ i, t = .rf i → i < L.length) : Rep G B H L v t := by
  cases t with
  | sc u => exact h
  | nd f k xs => exact h
  | rf i =>
    obtain ⟨f, k, xs, h1⟩ := h
    rw [List.getElem?_append_left (hr i rfl)] at h1
    exact ⟨f, k, xs, h1⟩
theorem Rep.longer {G : Gam} {B H : Hp} {L M : List Ent} {v : V} {t : T} (h : Rep G B H L v t) : Rep G B H (L ++ M) v t := by
  cases t with
  | sc u => exact h
  | nd f k xs => exact h
  | rf i =>
    obtain ⟨f, k, xs, h1⟩ := h
    have lt : i < L.length := by
      rcases Nat.lt_or_ge i L.length with q | q
      · exact q
      · rw [List.getElem?_eq_none q] at h1
        cases h1
    exact ⟨f, k, xs, by rw [List.getElem?_append_left lt]; exact h1⟩
/-- every slot that holds an object holds one of the same kind at the same place -/
def KeptE (L L' : List Ent) : Prop := ∀ (i : Nat) (v : V) (f : Fl) (k : Kd) (xs : List T), L[i]? = some (some v, some (.nd f k xs)) → ∃ f' ys, L'[i]? = some (some v, some (.nd f' k ys)) ∧ (f = .ln ∨ f = .lk → f' = f)
theorem KeptE.kept {L L' : List Ent} (h : KeptE L L') : Kept L L' := fun i v f k xs e l => by
  obtain ⟨f', ys, e', q⟩ := h i v f k xs e
  exact ⟨ys, by rw [← q l]; exact e'⟩
theorem KeptE.refl (L : List Ent) : KeptE L L := fun _ _ f _ xs e => ⟨f, xs, e, fun _ => rfl⟩
theorem KeptE.trans {L L1 L2 : List Ent} (p : KeptE L L1) (q : KeptE L1 L2) : KeptE L L2 := fun i v f k xs e => by
  obtain ⟨f1, ys, e1, r1⟩ := p i v f k xs e
  obtain ⟨f2, zs, e2, r2⟩ := q i v f1 k ys e1
  exact ⟨f2, zs, e2, fun l => by
    have h1 := r1 l
    rw [h1] at r2
    exact r2 l⟩
theorem own_app {L M : List Ent} {a : Addr} : Own (L ++ M) a ↔ Own L a ∨ Own M a := by
  constructor
  · rintro ⟨e, he, ha⟩
    rcases List.mem_append.mp he with h | h
    · exact .inl ⟨e, h, ha⟩
    · exact .inr ⟨e, h, ha⟩
  · rintro (⟨e, he, ha⟩ | ⟨e, he, ha⟩)
    · exact ⟨e, List.mem_append_left _ he, ha⟩
    · exact ⟨e, List.mem_append_right _ he, ha⟩
theorem wr_app {L M : List Ent} {a : Addr} : Wr (L ++ M) a ↔ Wr L a ∨ Wr M a := by
  constructor
  · rintro ⟨f, k, xs, he, ha⟩
    rcases List.mem_append.mp he with h | h
    · exact .inl ⟨f, k, xs, h, ha⟩
    · exact .inr ⟨f, k, xs, h, ha⟩
  · rintro (⟨f, k, xs, he, ha⟩ | ⟨f, k, xs, he, ha⟩)
    · exact ⟨f, k, xs, List.mem_append_left _ he, ha⟩
    · exact ⟨f, k, xs, List.mem_append_right _ he, ha⟩
/-- references are to slots of L -/
def Refs (n : Nat) (M : List Ent) : Prop := ∀ e ∈ M, ∀ i, e.2 = some (.rf i) → i < n
/-- a step of an expression: the slots L become L', the values N come -/
structure EStp (G : Gm) (B H : Hp) (L : List Ent) (B' H' : Hp) (L' N : List Ent) : Prop where
  stp : Stp G B H L B' H' (L' ++ N)
  ke : KeptE L L'
  len : L'.length = L.length
  nr : Refs 0 L'
  rn : Refs L.length N
/-- what stands beside a step stays -/
theorem Rep.stay {G : Gam} {B H B' H' : Hp} {L L' : List Ent} {v : V} {t : T} (hB : Same B B') (h : Rep G B H L v t) (ho : ∀ a f k xs, v = .ref a → t = .nd f k xs → owf f = true → (∀ o, H a = some o → H' a = some o) ∧ B' a = none)
    (hr : ∀ i, t = .rf i → ∃ f k xs, L'[i]? = some (some v, some (.nd f k xs))) : Rep G B' H' L' v t := by
  cases t with
  | sc u => exact h
  | nd f k xs =>
    unfold Rep at h ⊢
    by_cases q : owf f = true
    · simp only [if_pos q] at h ⊢
      obtain ⟨a, vs, e1, e2, e3, e4⟩ := h
      obtain ⟨k1, k2⟩ := ho a f k xs e1 rfl q
      exact ⟨a, vs, e1, k2, e3.same k1, SRepL.mono hB _ _ e4⟩
    · simp only [if_neg q] at h ⊢
      exact SRep.mono hB _ _ h
  | rf i => exact hr i rfl
theorem rep_idx {G : Gam} {B H : Hp} {L L' : List Ent} {e : Ent} (ix : ∀ (i : Nat) (x : Ent), e.2 = some (.rf i) → L[i]? = some x → L'[i]? = some x) (r : RepO G B H L e) : RepO G B H L' e := by
  obtain ⟨v, t⟩ := e
  cases t with
  | none => cases v <;> exact trivial
  | some t =>
    cases v with
    | none => exact r.elim
    | some v =>
      cases t with
      | sc u => exact r
      | nd f k xs => exact r
      | rf i =>
        obtain ⟨f, k, xs, h1⟩ := r
        exact ⟨f, k, xs, ix i _ rfl h1⟩
theorem frame {G : Gm} {B H B' H' : Hp} {L M L' N : List Ent} (rM : Refs L.length M) (s : St G B H (L ++ M)) (p : EStp G B H L B' H' L' N) : Stp G B H (L ++ M) B' H' (L' ++ M ++ N) ∧ KeptE (L ++ M) (L' ++ M) := by
  obtain ⟨p, k, hl, r0, rN⟩ := p
  have sepLM : ∀ a, Own L a → ¬ Own M a := fun a ⟨e, he, ha⟩ ⟨e', he', ha'⟩ => (List.pairwise_append.mp s.sep).2.2 e he e' he' a ha ha'
  have inM : ∀ a, Own M a → (∃ o, H a = some o) ∧ B a = none ∧ ¬ Own L a := fun a h => by
    have h2 := s.own (own_app.mpr (.inr h))
    exact ⟨h2.2, h2.1, fun z => sepLM a z h⟩
  have stM : ∀ a, Own M a → (∀ o, H a = some o → H' a = some o) ∧ B' a = none := fun a h => by
    obtain ⟨⟨o, e⟩, h2, h3⟩ := inM a h
    refine ⟨fun o e => p.fr a o (fun z => h3 z.own) e, ?_⟩
    cases z : B' a with
    | none => rfl
    | some o' =>
      rcases p.nb a (by rw [z]; simp) with y | y | y
      · exact absurd h2 y
      · exact absurd y.own h3
      · rw [e] at y
        cases y
  have noM : ∀ a, Own (L' ++ N) a → ¬ Own M a := fun a z y => by
    obtain ⟨⟨o, e⟩, h2, h3⟩ := inM a y
    rcases p.nw a z with q | q
    · exact h3 q
    · rw [e] at q
      cases q
  have idx : ∀ (i : Nat) (x : Ent), i < L.length → (L' ++ N)[i]? = some x → (L' ++ M ++ N)[i]? = some x := fun i x lt e => by
    rw [List.getElem?_append_left (by rw [hl]; exact lt)] at e
    rw [List.append_assoc, List.getElem?_append_left (by rw [hl]; exact lt)]
    exact e
  have kE : KeptE (L ++ M) (L' ++ M) := fun i v f kk xs e => by
    rcases Nat.lt_or_ge i L.length with lt | ge
    · rw [List.getElem?_append_left lt] at e
      obtain ⟨f', ys, e', q⟩ := k i v f kk xs e
      exact ⟨f', ys, by rw [List.getElem?_append_left (by rw [hl]; exact lt)]; exact e', q⟩
    · rw [List.getElem?_append_right ge] at e
      exact ⟨f, xs, by rw [List.getElem?_append_right (by rw [hl]; exact ge), hl]; exact e, fun _ => rfl⟩
  refine ⟨{ st := ⟨p.st.sub, ?_, ?_, p.st.floor⟩, ex := p.ex, fr := fun a o n h => p.fr a o (fun z => n (wr_app.mpr (.inl z))) h, nw := ?_, ww := ?_, nb := ?_ }, kE⟩
  · intro e he
    rw [List.append_assoc] at he
    rcases List.mem_append.mp he with h | h
    · exact rep_idx (fun i x ei _ => absurd (r0 e h i ei) (Nat.not_lt_zero i)) (p.st.rep e (List.mem_append_left _ h))
    rcases List.mem_append.mp h with h | h
    · have r := s.rep e (List.mem_append_right _ h)
      obtain ⟨v, t⟩ := e
      cases t with
      | none => cases v <;> exact trivial
      | some t =>
        cases v with
        | none => exact r.elim
        | some v =>
          refine Rep.stay p.ex r (fun a f kk xs e1 e2 e3 => stM a ⟨_, h, by rw [e1, e2]; exact adr_of e3⟩) fun i ei => ?_
          subst ei
          obtain ⟨f, kk, xs, h1⟩ := r
          have lt := rM _ h i rfl
          rw [List.getElem?_append_left lt] at h1
          obtain ⟨f', ys, h2, _⟩ := k i v f kk xs h1
          refine ⟨f', kk, ys, ?_⟩
          rw [List.append_assoc, List.getElem?_append_left (by rw [hl]; exact lt)]
          exact h2
    · exact rep_idx (fun i x ei e1 => idx i x (rN e h i ei) e1) (p.st.rep e (List.mem_append_right _ h))
  · have q1 := List.pairwise_append.mp p.st.sep
    have q2 := List.pairwise_append.mp s.sep
    rw [List.append_assoc]
    refine List.pairwise_append.mpr ⟨q1.1, List.pairwise_append.mpr ⟨q2.2.1, q1.2.1, fun e he e' he' a ha ha' => noM a ⟨e', List.mem_append_right _ he', ha'⟩ ⟨e, he, ha⟩⟩, fun e he e' he' a ha ha' => ?_⟩
    rcases List.mem_append.mp he' with h | h
    · exact noM a ⟨e, List.mem_append_left _ he, ha⟩ ⟨e', h, ha'⟩
    · exact q1.2.2 e he e' h a ha ha'
  · intro a z
    rw [List.append_assoc] at z
    rcases own_app.mp z with z | z
    · rcases p.nw a (own_app.mpr (.inl z)) with y | y
      · exact .inl (own_app.mpr (.inl y))
      · exact .inr y
    rcases own_app.mp z with z | z
    · exact .inl (own_app.mpr (.inr z))
    · rcases p.nw a (own_app.mpr (.inr z)) with y | y
      · exact .inl (own_app.mpr (.inl y))
      · exact .inr y
  · intro a z
    rw [List.append_assoc] at z
    rcases wr_app.mp z with z | z
    · rcases p.ww a (wr_app.mpr (.inl z)) with y | y
      · exact .inl (wr_app.mpr (.inl y))
      · exact .inr y
    rcases wr_app.mp z with z | z
    · exact .inl (wr_app.mpr (.inr z))
    · rcases p.ww a (wr_app.mpr (.inr z)) with y | y
      · exact .inl (wr_app.mpr (.inl y))
      · exact .inr y
  · intro a z
    rcases p.nb a z with y | y | y
    · exact .inl y
    · exact .inr (.inl (wr_app.mpr (.inl y)))
    · exact .inr (.inr y)
end PD
end PartPD1

section PartPD2
set_option Elab.async false
set_option linter.all false
set_option maxRecDepth 100000
set_option maxHeartbeats 4000000
namespace PD
open PySem L2

/-! ### what code does to plain data -/
abbrev Env := List (Option T)
inductive Res (α : Type) where
  | ok (a : α)
  | err (r : Env) (c : Nat) (fs : List T)
  | stuck
@[inline] def Res.bind {α β : Type} (x : Res α) (f : α → Res β) : Res β := match x with
  | .ok a => f a
  | .err r c fs => .err r c fs
  | .stuck => .stuck
instance : Monad Res where
  pure := .ok
  bind := Res.bind
abbrev XE := Env → Res (Env × T)
abbrev XT := Env → Res (Env × Bool)
abbrev XA := Env → Res (Env × List T)
inductive Out where
  | nx (r : Env)
  | rt (r : Env) (t : T)
  | bk (r : Env)
  | ct (r : Env)
abbrev XS := Env → Res Out
def XE.andThen {β : Type} (f : XE) (k : Env → T → Res β) : Env → Res β := fun r => match f r with
  | .ok (r1, t) => k r1 t
  | .err r c fs => .err r c fs
  | .stuck => .stuck
def XA.andThen {β : Type} (f : XA) (k : Env → List T → Res β) : Env → Res β := fun r => match f r with
  | .ok (r1, ts) => k r1 ts
  | .err r c fs => .err r c fs
  | .stuck => .stuck
def XT.andThen {β : Type} (f : XT) (k : Env → Bool → Res β) : Env → Res β := fun r => match f r with
  | .ok (r1, b) => k r1 b
  | .err r c fs => .err r c fs
  | .stuck => .stuck
def XS.andThen (f : XS) (k : XS) : XS := fun r => match f r with
  | .ok (.nx r1) => k r1
  | .ok o => .ok o
  | .err r c fs => .err r c fs
  | .stuck => .stuck

abbrev zl (σ : L2.St) (r : Env) : List Ent := List.zip σ r
/-- values with what is known of them -/
abbrev prs (vs : List V) (ts : List T) : List Ent := List.zip (vs.map some) (ts.map some)

/-- a raised error: its fields stand in its own dict, for good -/
def ExR (G : Gam) (B : Hp) (c : Nat) (fs : List T) (d : Option Addr) : Prop := match fs with
  | [] => d = none
  | t :: ts => ∃ a vs, d = some a ∧ B a = some (.xd ((G.flds c).zip vs)) ∧ vs.length = (G.flds c).length ∧ SRepL G B vs (t :: ts)
structure Init (G : Gm) (B H : Hp) (σ : L2.St) (r : Env) : Prop where
  len : σ.length = r.length
  nr : Refs 0 (zl σ r)
  st : St G B H (zl σ r)
  ps : G.P σ
/-- the step of an expression, its values vs told by ts -/
structure ES (G : Gm) (B H : Hp) (σ : L2.St) (r : Env) (B' H' : Hp) (r' : Env) (vs : List V) (ts : List T) : Prop where
  len : σ.length = r'.length
  lv : vs.length = ts.length
  es : EStp G B H (zl σ r) B' H' (zl σ r') (prs vs ts)
  ps : G.P σ
theorem ES.init {G : Gm} {B H B' H' : Hp} {σ : L2.St} {r r' : Env} {vs : List V} {ts : List T} (e : ES G B H σ r B' H' r' vs ts) : Init G B' H' σ r' where
  len := e.len
  nr := e.es.nr
  ps := e.ps
  st := by
    have s := e.es.stp.st
    refine ⟨s.sub, fun x hx => ?_, (List.pairwise_append.mp s.sep).1, s.floor⟩
    exact rep_idx (fun i y ei _ => absurd (e.es.nr x hx i ei) (Nat.not_lt_zero i)) (s.rep x (List.mem_append_left _ hx))
theorem Init.es {G : Gm} {B H : Hp} {σ : L2.St} {r : Env} (i : Init G B H σ r) : ES G B H σ r B H r [] [] where
  len := i.len
  lv := rfl
  ps := i.ps
  es := ⟨by
    show Stp G B H (zl σ r) B H (zl σ r ++ [])
    rw [List.append_nil]
    exact Stp.refl i.st, KeptE.refl _, rfl, i.nr, fun _ h => by cases h⟩

def wErr (G : Gm) (W : WX) (B H : Hp) (σ : L2.St) (r r' : Env) (c : Nat) (fs : List T) : Prop :=
  ∀ d B' H', ES G B H σ r B' H' r' [] [] → ExR G B' c fs d → W (.ref (G.cls c)) d σ H'
def dEp (G : Gm) (W : WX) (σ : L2.St) (Q : VK) (B H : Hp) (r : Env) : Res (Env × T) → Prop
  | .ok (r', t) => ∀ v B' H', ES G B H σ r B' H' r' [v] [t] → Q v H'
  | .err r' c fs => wErr G W B H σ r r' c fs
  | .stuck => False
def dTp (G : Gm) (W : WX) (σ : L2.St) (Q : Bool → Hp → Prop) (B H : Hp) (r : Env) : Res (Env × Bool) → Prop
  | .ok (r', b) => ∀ B' H', ES G B H σ r B' H' r' [] [] → Q b H'
  | .err r' c fs => wErr G W B H σ r r' c fs
  | .stuck => False
def dAp (G : Gm) (W : WX) (σ : L2.St) (Q : List V → Hp → Prop) (B H : Hp) (r : Env) : Res (Env × List T) → Prop
  | .ok (r', ts) => ∀ vs B' H', ES G B H σ r B' H' r' vs ts → Q vs H'
  | .err r' c fs => wErr G W B H σ r r' c fs
  | .stuck => False
/-- the readings by plain data -/
def dE (G : Gm) (W : WX) (f : XE) : TE := fun σ H Q => ∃ B r, Init G B H σ r ∧ dEp G W σ Q B H r (f r)
def dT (G : Gm) (W : WX) (f : XT) : TT := fun σ H Q => ∃ B r, Init G B H σ r ∧ dTp G W σ Q B H r (f r)
def dA (G : Gm) (W : WX) (f : XA) : TA := fun σ H Q => ∃ B r, Init G B H σ r ∧ dAp G W σ Q B H r (f r)
/-- the step of a statement -/
structure SS (G : Gm) (B H : Hp) (σ : L2.St) (r : Env) (B' H' : Hp) (σ' : L2.St) (r' : Env) (vs : List V) (ts : List T) : Prop where
  len : σ'.length = r'.length
  ls : σ'.length = σ.length
  lv : vs.length = ts.length
  nr : Refs 0 (zl σ' r')
  rn : Refs 0 (prs vs ts)
  kp : Kept (zl σ r) (zl σ' r')
  stp : Stp G B H (zl σ r) B' H' (zl σ' r' ++ prs vs ts)
  ps : G.P σ'
def wErrS (G : Gm) (W : WX) (B H : Hp) (σ : L2.St) (r r' : Env) (c : Nat) (fs : List T) : Prop :=
  ∀ d B' H' σ', SS G B H σ r B' H' σ' r' [] [] → ExR G B' c fs d → W (.ref (G.cls c)) d σ' H'
def dSp (G : Gm) (W : WX) (D : Ends) (σ : L2.St) (B H : Hp) (r : Env) : Res Out → Prop
  | .ok (.nx r') => ∀ σ' B' H', SS G B H σ r B' H' σ' r' [] [] → D.nx σ' H'
  | .ok (.bk r') => ∀ σ' B' H', SS G B H σ r B' H' σ' r' [] [] → D.bk σ' H'
  | .ok (.ct r') => ∀ σ' B' H', SS G B H σ r B' H' σ' r' [] [] → D.ct σ' H'
  | .ok (.rt r' t) => ∀ v σ' B' H', SS G B H σ r B' H' σ' r' [v] [t] → D.rt v H'
  | .err r' c fs => wErrS G W B H σ r r' c fs
  | .stuck => False
def dS (G : Gm) (W : WX) (f : XS) : TS := fun D σ H => ∃ B r, Init G B H σ r ∧ dSp G W D σ B H r (f r)

/-! ### weaker readings -/
theorem PE.imp {X : Cx} {e : Expr} {t t' : TE} (h : PE X e t) (w : ∀ σ H Q, t' σ H Q → t σ H Q) : PE X e t' := ⟨fun pins s σ H Q I z => h.run pins s σ H Q I (w σ H Q z)⟩
theorem PT.imp {X : Cx} {e : Expr} {t t' : TT} (h : PT X e t) (w : ∀ σ H Q, t' σ H Q → t σ H Q) : PT X e t' := ⟨fun pins s σ H Q I z => h.run pins s σ H Q I (w σ H Q z)⟩
theorem PW.imp {X : Cx} {e : Expr} {t t' : TT} (h : PW X e t) (w : ∀ σ H Q, t' σ H Q → t σ H Q) : PW X e t' := ⟨fun whole pins s σ H Q I z => h.run whole pins s σ H Q I (w σ H Q z)⟩
theorem PA.imp {X : Cx} {e : List Expr} {t t' : TA} (h : PA X e t) (w : ∀ σ H Q, t' σ H Q → t σ H Q) : PA X e t' := ⟨fun p pins s σ H Q I z => h.run p pins s σ H Q I (w σ H Q z)⟩
theorem PS.imp {X : Cx} {e : Stmt} {t t' : TS} (h : PS X e t) (w : ∀ D σ H, t' D σ H → t D σ H) : PS X e t' := ⟨fun pins s σ H D I z => h.run pins s σ H D I (w D σ H z)⟩
theorem PSs.imp {X : Cx} {e : List Stmt} {t t' : TS} (h : PSs X e t) (w : ∀ D σ H, t' D σ H → t D σ H) : PSs X e t' := ⟨fun pins s σ H D I z => h.run pins s σ H D I (w D σ H z)⟩

/-! ### steps one behind the other -/
theorem prs_app {vs ws : List V} {ts us : List T} (h : vs.length = ts.length) : prs (vs ++ ws) (ts ++ us) = prs vs ts ++ prs ws us := by
  unfold prs
  rw [List.map_append, List.map_append, List.zip_append (by rw [List.length_map, List.length_map, h])]
theorem zl_len {σ : L2.St} {r : Env} (h : σ.length = r.length) : (zl σ r).length = σ.length := by
  unfold zl
  rw [List.length_zip, h, Nat.min_self]
theorem ES.app {G : Gm} {B H B1 H1 B2 H2 : Hp} {σ : L2.St} {r r1 r2 : Env} {vs ws : List V} {ts us : List T} (p : ES G B H σ r B1 H1 r1 vs ts) (q : ES G B1 H1 σ r1 B2 H2 r2 ws us) : ES G B H σ r B2 H2 r2 (vs ++ ws) (ts ++ us) := by
  obtain ⟨s, ke⟩ := frame (M := prs vs ts) (by rw [p.es.len]; exact p.es.rn) p.es.stp.st q.es
  refine ⟨q.len, by rw [List.length_append, List.length_append, p.lv, q.lv], ?_, p.ps⟩
  rw [prs_app p.lv]
  refine ⟨?_, p.es.ke.trans q.es.ke, q.es.len.trans p.es.len, q.es.nr, fun e he i ei => ?_⟩
  · rw [← List.append_assoc]
    exact p.es.stp.trans s
  · rcases List.mem_append.mp he with h | h
    · exact p.es.rn e h i ei
    · have z := q.es.rn e h i ei
      rw [p.es.len] at z
      exact z
/-- other values in the place of those on the way: shared data -/
theorem Rep.shared {G : Gm} {B H : Hp} {L : List Ent} {v : V} {t : T} (h : SRep G B v t) : Rep G B H L v t := by
  cases t with
  | sc u => exact h
  | nd f k xs =>
    unfold Rep
    have q : f = .sh := by
      unfold SRep at h
      exact h.1
    subst q
    exact h
  | rf i => exact h.elim
theorem adr_shared {G : Gm} {B : Hp} {v : V} {t : T} (h : SRep G B v t) : adr (some v, some t) = none := by
  cases t with
  | sc u => cases v <;> rfl
  | nd f k xs =>
    have q : f = .sh := by
      unfold SRep at h
      exact h.1
    subst q
    cases v <;> rfl
  | rf i => exact h.elim
theorem ES.drop {G : Gm} {B H B1 H1 : Hp} {σ : L2.St} {r r1 : Env} {vs : List V} {ts : List T} (p : ES G B H σ r B1 H1 r1 vs ts) : ES G B H σ r B1 H1 r1 [] [] where
  len := p.len
  lv := rfl
  ps := p.ps
  es := by
    refine ⟨?_, p.es.ke, p.es.len, p.es.nr, fun _ h => by cases h⟩
    have s := p.es.stp
    refine { st := ?_, ex := s.ex, fr := s.fr, nw := fun a h => s.nw a ?_, ww := fun a h => s.ww a ?_, nb := s.nb }
    · show St G B1 H1 (zl σ r1 ++ [])
      rw [List.append_nil]
      exact p.init.st
    · rcases own_app.mp h with h | h
      · exact own_app.mpr (.inl h)
      · obtain ⟨e, he, _⟩ := h
        cases he
    · rcases wr_app.mp h with h | h
      · exact wr_app.mpr (.inl h)
      · obtain ⟨f, k, xs, he, _⟩ := h
        cases he
theorem ES.put {G : Gm} {B H B1 H1 : Hp} {σ : L2.St} {r r1 : Env} {vs : List V} {ts : List T} {v : V} {t : T} (p : ES G B H σ r B1 H1 r1 vs ts) (h : SRep G B1 v t) : ES G B H σ r B1 H1 r1 [v] [t] := by
  have p0 := p.drop
  have q : ES G B1 H1 σ r1 B1 H1 r1 [v] [t] := by
    refine ⟨p.len, rfl, ⟨?_, KeptE.refl _, rfl, p.es.nr, fun e he i ei => ?_⟩, p.ps⟩
    · have s := p.init.st
      refine { st := ⟨s.sub, ?_, ?_, s.floor⟩, ex := Same.refl _, fr := fun _ _ _ h => h, nw := ?_, ww := ?_, nb := fun _ h => .inl h }
      · intro e he
        rcases List.mem_append.mp he with h1 | h1
        · exact rep_idx (fun i y ei _ => absurd (p.es.nr e h1 i ei) (Nat.not_lt_zero i)) (s.rep e h1)
        · have e1 : e = (some v, some t) := List.mem_singleton.mp h1
          subst e1
          exact Rep.shared h
      · refine List.pairwise_append.mpr ⟨s.sep, List.pairwise_singleton _ _, fun e he e' he' a ha ha' => ?_⟩
        have e1 : e' = (some v, some t) := List.mem_singleton.mp he'
        subst e1
        rw [adr_shared h] at ha'
        cases ha'
      · intro a z
        rcases own_app.mp z with z | ⟨e, he, ha⟩
        · exact .inl z
        · have e1 : e = (some v, some t) := List.mem_singleton.mp he
          subst e1
          rw [adr_shared h] at ha
          cases ha
      · intro a z
        rcases wr_app.mp z with z | z
        · exact .inl z
        · have z2 := z.own
          obtain ⟨e, he, ha⟩ := z2
          have e1 : e = (some v, some t) := List.mem_singleton.mp he
          subst e1
          rw [adr_shared h] at ha
          cases ha
    · have e1 : e = (some v, some t) := List.mem_singleton.mp he
      subst e1
      cases ei
      exact h.elim
  exact p0.app q
/-- a new object that is shared at once -/
theorem ES.news {G : Gm} {B H B1 H1 : Hp} {σ : L2.St} {r r1 : Env} {vs : List V} {ts : List T} {p : Addr} {o : HO} (s : ES G B H σ r B1 H1 r1 vs ts) (hp : H1 p = none) : ES G B H σ r (upd B1 p o) (upd H1 p o) r1 [] [] := by
  have fr := s.init.st.free hp
  have st := s.init.st
  have sB : Same B1 (upd B1 p o) := fun b u e => by
    rw [upd_ne (ne_of_none e fr.1)]
    exact e
  have q : ES G B1 H1 σ r1 (upd B1 p o) (upd H1 p o) r1 [] [] := by
    refine ⟨s.len, rfl, ⟨?_, KeptE.refl _, rfl, s.es.nr, fun _ h => by cases h⟩, s.ps⟩
    show Stp G B1 H1 (zl σ r1) (upd B1 p o) (upd H1 p o) (zl σ r1 ++ [])
    rw [List.append_nil]
    refine { st := ⟨?_, ?_, st.sep, st.floor.trans sB⟩, ex := sB, fr := ?_, nw := fun a h => .inl h, ww := fun a h => .inl h, nb := ?_ }
    · intro b u e
      by_cases hb : b = p
      · subst hb
        rw [upd_same] at e ⊢
        exact e
      · rw [upd_ne hb] at e ⊢
        exact st.sub b u e
    · intro e he
      have r0 := st.rep e he
      obtain ⟨v, t⟩ := e
      cases t with
      | none => cases v <;> exact trivial
      | some t =>
        cases v with
        | none => exact r0.elim
        | some v =>
          refine Rep.stay sB r0 (fun a f k xs e1 e2 e3 => ?_) fun i ei => absurd (s.es.nr _ he i (by rw [ei])) (Nat.not_lt_zero i)
          have ow : Own (zl σ r1) a := ⟨_, he, by rw [e1, e2]; exact adr_of e3⟩
          have ne : a ≠ p := fun z => fr.2 (z ▸ ow)
          refine ⟨fun o' h => by rw [upd_ne ne]; exact h, ?_⟩
          rw [upd_ne ne]
          exact (st.own ow).1
    · intro a u n h
      rw [upd_ne (ne_of_none h hp)]
      exact h
    · intro a h
      by_cases hb : a = p
      · subst hb
        exact .inr (.inr hp)
      · rw [upd_ne hb] at h
        exact .inl h
  exact s.drop.app q
/-- a new object that its holder owns -/
theorem ES.newo {G : Gm} {B H B1 H1 : Hp} {σ : L2.St} {r r1 : Env} {vs ws : List V} {ts xs : List T} {p : Addr} (s : ES G B H σ r B1 H1 r1 vs ts) (hp : H1 p = none) (hx : SRepL G B1 ws xs) : ES G B H σ r B1 (upd H1 p (.lst ws)) r1 [.ref p] [.nd .ow .lst xs] := by
  have fr := s.init.st.free hp
  have st := s.init.st
  have q : ES G B1 H1 σ r1 B1 (upd H1 p (.lst ws)) r1 [.ref p] [.nd .ow .lst xs] := by
    refine ⟨s.len, rfl, ⟨?_, KeptE.refl _, rfl, s.es.nr, ?_⟩, s.ps⟩
    · refine { st := ⟨?_, ?_, ?_, st.floor⟩, ex := Same.refl _, fr := ?_, nw := ?_, ww := ?_, nb := fun a h => .inl h }
      · intro b u e
        rw [upd_ne (ne_of_none e fr.1)]
        exact st.sub b u e
      · intro e he
        rcases List.mem_append.mp he with he | he
        · have r0 := st.rep e he
          obtain ⟨v, t⟩ := e
          cases t with
          | none => cases v <;> exact trivial
          | some t =>
            cases v with
            | none => exact r0.elim
            | some v =>
              refine Rep.stay (Same.refl _) r0 (fun a f k xs e1 e2 e3 => ?_) fun i ei => absurd (s.es.nr _ he i (by rw [ei])) (Nat.not_lt_zero i)
              have ow : Own (zl σ r1) a := ⟨_, he, by rw [e1, e2]; exact adr_of e3⟩
              have ne : a ≠ p := fun z => fr.2 (z ▸ ow)
              exact ⟨fun o' h => by rw [upd_ne ne]; exact h, (st.own ow).1⟩
        · have e1 : e = (some (.ref p), some (.nd .ow .lst xs)) := List.mem_singleton.mp he
          subst e1
          exact ⟨p, ws, rfl, fr.1, upd_same, hx⟩
      · refine List.pairwise_append.mpr ⟨st.sep, List.pairwise_singleton _ _, fun e he e' he' a ha ha' => ?_⟩
        have e1 : e' = (some (.ref p), some (.nd .ow .lst xs)) := List.mem_singleton.mp he'
        subst e1
        have e2 : p = a := Option.some.inj (ha'.symm.trans (adr_of rfl)) |>.symm
        subst e2
        exact fr.2 ⟨e, he, ha⟩
      · intro a u n h
        rw [upd_ne (ne_of_none h hp)]
        exact h
      · intro a z
        rcases own_app.mp z with z | ⟨e, he, ha⟩
        · exact .inl z
        · have e1 : e = (some (.ref p), some (.nd .ow .lst xs)) := List.mem_singleton.mp he
          subst e1
          have e2 : p = a := Option.some.inj (ha.symm.trans (adr_of rfl)) |>.symm
          subst e2
          exact .inr hp
      · intro a z
        rcases wr_app.mp z with z | z
        · exact .inl z
        · obtain ⟨e, he, ha⟩ := z.own
          have e1 : e = (some (.ref p), some (.nd .ow .lst xs)) := List.mem_singleton.mp he
          subst e1
          have e2 : p = a := Option.some.inj (ha.symm.trans (adr_of rfl)) |>.symm
          subst e2
          exact .inr hp
    · intro e he i ei
      have e1 : e = (some (.ref p), some (.nd .ow .lst xs)) := List.mem_singleton.mp he
      subst e1
      cases ei
  exact s.drop.app q
end PD
end PartPD2

section PartPD3
set_option Elab.async false
set_option linter.all false
set_option maxRecDepth 100000
set_option maxHeartbeats 4000000
namespace PD
open PySem L2

/-- the object that t stands for, as it is now -/
def pk (r : Env) (t : T) : T := match t with
  | .rf i => (match r[i]? with
    | some (some u) => u
    | _ => .rf i)
  | t => t
theorem prs_mem {vs : List V} {ts : List T} {i : Nat} {v : V} {t : T} (h1 : vs[i]? = some v) (h2 : ts[i]? = some t) : (some v, some t) ∈ prs vs ts := by
  have e : (prs vs ts)[i]? = some (some v, some t) := by
    unfold prs
    rw [List.getElem?_zip_eq_some]
    simp [h1, h2]
  exact List.mem_of_getElem? e
section
variable {G : Gm} {B H B1 H1 : Hp} {σ : L2.St} {r r1 : Env} {vs : List V} {ts : List T}
theorem ES.rep (s : ES G B H σ r B1 H1 r1 vs ts) {i : Nat} {v : V} {t : T} (h1 : vs[i]? = some v) (h2 : ts[i]? = some t) : Rep G B1 H1 (zl σ r1 ++ prs vs ts) v t :=
  s.es.stp.st.rep _ (List.mem_append_right _ (prs_mem h1 h2))
theorem ES.has (s : ES G B H σ r B1 H1 r1 vs ts) {i : Nat} {t : T} (h2 : ts[i]? = some t) : ∃ v, vs[i]? = some v := by
  have lt : i < ts.length := by
    rcases Nat.lt_or_ge i ts.length with q | q
    · exact q
    · rw [List.getElem?_eq_none q] at h2
      cases h2
  rw [← s.lv] at lt
  exact ⟨vs[i], by simp [lt]⟩
theorem OwC.rd {a : Addr} {ws : List V} {k : Kd} {H : Hp} (h : OwC G H a ws k) : ShC G H a ws k := by
  cases k with
  | lst => exact h
  | tup => exact h.elim
  | fro => exact h.elim
  | ins c => exact h
/-- the value of a slot, of a value on the way, read -/
theorem Rep.rd {L : List Ent} {v : V} {f : Fl} {k : Kd} {xs : List T} (sub : Same B H) (h : Rep G B H L v (.nd f k xs)) : ∃ a ws, v = .ref a ∧ ShC G H a ws k ∧ SRepL G B ws xs := by
  have h' : (if owf f then ∃ a vs, v = .ref a ∧ B a = none ∧ OwC G H a vs k ∧ SRepL G B vs xs else SRep G B v (.nd f k xs)) := h
  by_cases q : owf f = true
  · rw [if_pos q] at h'
    obtain ⟨a, ws, h1, _, h3, h4⟩ := h'
    exact ⟨a, ws, h1, h3.rd, h4⟩
  · rw [if_neg q] at h'
    unfold SRep at h'
    obtain ⟨_, a, ws, h1, h2, h3⟩ := h'
    exact ⟨a, ws, h1, h2.mono sub, h3⟩
theorem zl_get {i : Nat} {v : V} {t : T} (h : (zl σ r)[i]? = some (some v, some t)) : σ[i]? = some (some v) ∧ r[i]? = some (some t) := by
  unfold zl at h
  rw [List.getElem?_zip_eq_some] at h
  exact h
theorem zl_of {i : Nat} {v : Option V} {t : Option T} (h1 : σ[i]? = some v) (h2 : r[i]? = some t) : (zl σ r)[i]? = some (v, t) := by
  unfold zl
  rw [List.getElem?_zip_eq_some]
  exact ⟨h1, h2⟩
theorem ES.rd (s : ES G B H σ r B1 H1 r1 vs ts) {i : Nat} {v : V} {t : T} {f : Fl} {k : Kd} {xs : List T} (h1 : vs[i]? = some v) (h2 : ts[i]? = some t) (hp : pk r1 t = .nd f k xs) : ∃ a ws, v = .ref a ∧ ShC G H1 a ws k ∧ SRepL G B1 ws xs := by
  have rp := s.rep h1 h2
  cases t with
  | sc u => cases hp
  | nd f' k' xs' =>
    cases hp
    exact rp.rd s.es.stp.st.sub
  | rf j =>
    obtain ⟨f', k', xs', h3⟩ := rp
    have lt : j < (zl σ r).length := s.es.rn _ (prs_mem h1 h2) j rfl
    rw [List.getElem?_append_left (by rw [s.es.len]; exact lt)] at h3
    have h4 := zl_get h3
    unfold pk at hp
    simp only [h4.2] at hp
    cases hp
    have rp2 := s.init.st.rep _ (List.mem_of_getElem? h3)
    exact rp2.rd (L := zl σ r1) s.es.stp.st.sub
theorem ES.sc (s : ES G B H σ r B1 H1 r1 vs ts) {i : Nat} {v u : V} (h1 : vs[i]? = some v) (h2 : ts[i]? = some (.sc u)) : v = u := s.rep h1 h2
theorem ES.sh (s : ES G B H σ r B1 H1 r1 vs ts) {i : Nat} {v : V} {k : Kd} {xs : List T} (h1 : vs[i]? = some v) (h2 : ts[i]? = some (.nd .sh k xs)) : SRep G B1 v (.nd .sh k xs) := s.rep h1 h2
theorem wErr.later {W : WX} {r2 : Env} {c : Nat} {fs : List T} (s : ES G B H σ r B1 H1 r1 vs ts) (h : wErr G W B H σ r r2 c fs) : wErr G W B1 H1 σ r1 r2 c fs :=
  fun d B' H' q x => h d B' H' (s.app q).drop x
end
/-! ### operations on values -/
def bin (fa fb : XE) (g : Env → T → T → Res (Env × T)) : XE := fun r => match fa r with
  | .ok (r1, t1) => (match fb r1 with
    | .ok (r2, t2) => g r2 t1 t2
    | .err r c fs => .err r c fs
    | .stuck => .stuck)
  | .err r c fs => .err r c fs
  | .stuck => .stuck
def un (fa : XE) (g : Env → T → Res (Env × T)) : XE := fun r => match fa r with
  | .ok (r1, t1) => g r1 t1
  | .err r c fs => .err r c fs
  | .stuck => .stuck
def onA (fa : XA) (g : Env → List T → Res (Env × T)) : XE := fun r => match fa r with
  | .ok (r1, t1) => g r1 t1
  | .err r c fs => .err r c fs
  | .stuck => .stuck
/-- the reading r does what g says -/
def Op2 (G : Gm) (W : WX) (q : R2) (g : Env → T → T → Res (Env × T)) : Prop := ∀ (σ : L2.St) (Q : VK) (B H : Hp) (r : Env) (B1 H1 : Hp) (r1 : Env) (v1 v2 : V) (t1 t2 : T),
  ES G B H σ r B1 H1 r1 [v1, v2] [t1, t2] → dEp G W σ Q B H r (g r1 t1 t2) → q v1 v2 H1 Q
def Op1 (G : Gm) (W : WX) (q : V → Hp → VK → Prop) (g : Env → T → Res (Env × T)) : Prop := ∀ (σ : L2.St) (Q : VK) (B H : Hp) (r : Env) (B1 H1 : Hp) (r1 : Env) (v1 : V) (t1 : T),
  ES G B H σ r B1 H1 r1 [v1] [t1] → dEp G W σ Q B H r (g r1 t1) → q v1 H1 Q
def OpA (G : Gm) (W : WX) (q : List V → Hp → VK → Prop) (g : Env → List T → Res (Env × T)) : Prop := ∀ (σ : L2.St) (Q : VK) (B H : Hp) (r : Env) (B1 H1 : Hp) (r1 : Env) (vs : List V) (ts : List T),
  ES G B H σ r B1 H1 r1 vs ts → dEp G W σ Q B H r (g r1 ts) → q vs H1 Q
section
variable {G : Gm} {W : WX} {fa fb : XE}
theorem un_w {q : V → Hp → VK → Prop} {g : Env → T → Res (Env × T)} (o : Op1 G W q g) (σ : L2.St) (H : Hp) (Q : VK) (h : dE G W (un fa g) σ H Q) : dE G W fa σ H (fun x H1 => q x H1 Q) := by
  obtain ⟨B, r, i, h⟩ := h
  refine ⟨B, r, i, ?_⟩
  unfold un at h
  cases e : fa r with
  | ok p =>
    obtain ⟨r1, t1⟩ := p
    rw [e] at h
    intro v1 B1 H1 s1
    exact o σ Q B H r B1 H1 r1 v1 t1 s1 h
  | err r2 c fs =>
    rw [e] at h
    exact h
  | stuck =>
    rw [e] at h
    exact h
theorem bin_w {q : R2} {g : Env → T → T → Res (Env × T)} (o : Op2 G W q g) (σ : L2.St) (H : Hp) (Q : VK) (h : dE G W (bin fa fb g) σ H Q) : dE G W fa σ H (fun x H1 => dE G W fb σ H1 fun y H2 => q x y H2 Q) := by
  obtain ⟨B, r, i, h⟩ := h
  refine ⟨B, r, i, ?_⟩
  unfold bin at h
  cases e : fa r with
  | ok p =>
    obtain ⟨r1, t1⟩ := p
    rw [e] at h
    intro v1 B1 H1 s1
    refine ⟨B1, r1, s1.init, ?_⟩
    have h2 : dEp G W σ Q B H r (match fb r1 with
      | .ok (r2, t2) => g r2 t1 t2
      | .err r c fs => .err r c fs
      | .stuck => .stuck) := h
    cases e2 : fb r1 with
    | ok p2 =>
      obtain ⟨r2, t2⟩ := p2
      rw [e2] at h2
      intro v2 B2 H2 s2
      exact o σ Q B H r B2 H2 r2 v1 v2 t1 t2 (s1.app s2) h2
    | err r2 c fs =>
      rw [e2] at h2
      exact wErr.later s1 h2
    | stuck =>
      rw [e2] at h2
      exact h2
  | err r2 c fs =>
    rw [e] at h
    exact h
  | stuck =>
    rw [e] at h
    exact h
theorem onA_w {fa : XA} {q : List V → Hp → VK → Prop} {g : Env → List T → Res (Env × T)} (o : OpA G W q g) (σ : L2.St) (H : Hp) (Q : VK) (h : dE G W (onA fa g) σ H Q) : dA G W fa σ H (fun x H1 => q x H1 Q) := by
  obtain ⟨B, r, i, h⟩ := h
  refine ⟨B, r, i, ?_⟩
  unfold onA at h
  cases e : fa r with
  | ok p =>
    obtain ⟨r1, t1⟩ := p
    rw [e] at h
    intro v1 B1 H1 s1
    exact o σ Q B H r B1 H1 r1 v1 t1 s1 h
  | err r2 c fs =>
    rw [e] at h
    exact h
  | stuck =>
    rw [e] at h
    exact h
end

/-! ### expressions -/
abbrev T.int (i : Int) : T := .sc (.int i)
abbrev T.bl (b : Bool) : T := .sc (.bl b)
abbrev T.str (x : Str) : T := .sc (.str x)
abbrev T.non : T := .sc .non
def eC (u : V) : XE := fun r => .ok (r, .sc u)
def eV (i : Nat) : XE := fun r => match r[i]? with
  | some (some t) => (match t with
    | .sc u => .ok (r, .sc u)
    | .nd .sh k xs => .ok (r, .nd .sh k xs)
    | .nd _ _ _ => .ok (r, .rf i)
    | .rf _ => .stuck)
  | _ => .stuck
def eSh (t : T) : XE := fun r => .ok (r, t)
section
variable {G : Gm} {W : WX} {X : Cx} {a b : Expr} {fa fb : XE} {pos : Pos}
theorem de_c {e : Expr} {u : V} (h : PE X e (tC u)) : PE X e (dE G W (eC u)) := PE.imp h fun σ H Q h => by
  obtain ⟨B, r, i, h⟩ := h
  exact h u B H (i.es.put (v := u) (t := .sc u) rfl)
theorem de_int {i : Int} {j} : PE X (.Constant (.int i) j pos) (dE G W (eC (.int i))) := de_c pe_int
theorem de_bl {i : Bool} {j} : PE X (.Constant (.bool i) j pos) (dE G W (eC (.bl i))) := de_c pe_bl
theorem de_non {j} : PE X (.Constant .none j pos) (dE G W (eC .non)) := de_c pe_non
theorem de_str {i : Str} {j} : PE X (.Constant (.str i) j pos) (dE G W (eC (.str i))) := de_c pe_str
/-- a global's value that is shared data -/
theorem de_sh {e : Expr} {u : V} {t : T} (h : PE X e (tC u)) (hs : ∀ B, SRep G B u t) : PE X e (dE G W (eSh t)) := PE.imp h fun σ H Q h => by
  obtain ⟨B, r, i, h⟩ := h
  exact h u B H (i.es.put (hs B))
theorem de_v (i : Nat) {x : Str} (h : PE X (.Name x pos) (tVar i) := by exact pv _) : PE X (.Name x pos) (dE G W (eV i)) := PE.imp h fun σ H Q h => by
  obtain ⟨B, r, ini, h⟩ := h
  unfold eV at h
  cases e : r[i]? with
  | none =>
    rw [e] at h
    exact h.elim
  | some o =>
    rw [e] at h
    cases o with
    | none => exact h.elim
    | some t =>
      have lt : i < σ.length := by
        rw [ini.len]
        rcases Nat.lt_or_ge i r.length with q | q
        · exact q
        · rw [List.getElem?_eq_none q] at e
          cases e
      have hz : (zl σ r)[i]? = some (σ[i], some t) := zl_of (by simp [lt]) e
      have rp := ini.st.rep _ (List.mem_of_getElem? hz)
      cases ev : σ[i] with
      | none =>
        rw [ev] at rp
        exact rp.elim
      | some v =>
        rw [ev] at rp hz
        refine ⟨v, by rw [← ev]; simp [lt], ?_⟩
        cases t with
        | sc u => exact h v B H (ini.es.put (v := v) (t := .sc u) rp)
        | rf j => exact h.elim
        | nd f k xs =>
          have key : dEp G W σ Q B H r (.ok (r, .rf i)) → Q v H := fun h => by
            refine h v B H ⟨ini.len, rfl, ⟨?_, KeptE.refl _, rfl, ini.nr, fun e he j ej => ?_⟩, ini.ps⟩
            · have st := ini.st
              refine { st := ⟨st.sub, ?_, ?_, st.floor⟩, ex := Same.refl _, fr := fun _ _ _ h => h, nw := ?_, ww := ?_, nb := fun _ h => .inl h }
              · intro e he
                rcases List.mem_append.mp he with h1 | h1
                · exact rep_idx (fun i y ei _ => absurd (ini.nr e h1 i ei) (Nat.not_lt_zero i)) (st.rep e h1)
                · have e1 : e = (some v, some (.rf i)) := List.mem_singleton.mp h1
                  subst e1
                  have lt2 : i < (zl σ r).length := by
                    rw [zl_len ini.len]
                    exact lt
                  exact ⟨f, k, xs, by rw [List.getElem?_append_left lt2]; exact hz⟩
              · refine List.pairwise_append.mpr ⟨st.sep, List.pairwise_singleton _ _, fun e he e' he' a ha ha' => ?_⟩
                have e1 : e' = (some v, some (.rf i)) := List.mem_singleton.mp he'
                subst e1
                cases v <;> cases ha'
              · intro a z
                rcases own_app.mp z with z | ⟨e, he, ha⟩
                · exact .inl z
                · have e1 : e = (some v, some (.rf i)) := List.mem_singleton.mp he
                  subst e1
                  cases v <;> cases ha
              · intro a z
                rcases wr_app.mp z with z | z
                · exact .inl z
                · obtain ⟨e, he, ha⟩ := z.own
                  have e1 : e = (some v, some (.rf i)) := List.mem_singleton.mp he
                  subst e1
                  cases v <;> cases ha
            · have e1 : e = (some v, some (.rf i)) := List.mem_singleton.mp he
              subst e1
              cases ej
              rw [zl_len ini.len]
              exact lt
          cases f with
          | sh => exact h v B H (ini.es.put (v := v) (t := .nd .sh k xs) rp)
          | ow => exact key h
          | ln => exact key h
          | lk => exact key h
theorem de_bin {op : Operator} {q : R2} {g : Env → T → T → Res (Env × T)} (ho : OpR X (binaryOp op) q) (o : Op2 G W q g) (ha : PE X a (dE G W fa)) (hb : PE X b (dE G W fb)) : PE X (.BinOp a op b pos) (dE G W (bin fa fb g)) :=
  PE.imp (pe_op ho ha hb) fun σ H Q h => bin_w o σ H Q h
theorem de_un {op : UnaryOp} {q : V → Hp → VK → Prop} {g : Env → T → Res (Env × T)} (ho : UnR X (unaryOp op) q) (o : Op1 G W q g) (ha : PE X a (dE G W fa)) : PE X (.UnaryOp op a pos) (dE G W (un fa g)) :=
  PE.imp (pe_un ho ha) fun σ H Q h => un_w o σ H Q h
theorem de_cmp {op : CmpOp} {q : R2} {g : Env → T → T → Res (Env × T)} (ho : OpR X (compareOp op) q) (o : Op2 G W q g) (ha : PE X a (dE G W fa)) (hb : PE X b (dE G W fb)) (hm : behindInMarks op b = false := by exact nomark _) : PE X (.Compare a [op] [b] pos) (dE G W (bin fa fb g)) :=
  PE.imp (pe_cmpR ho ha hb hm) fun σ H Q h => bin_w o σ H Q h
end
/-! ### operations on ints -/
def gI (C : Int → Int → Bool) (g : Int → Int → V) : Env → T → T → Res (Env × T) := fun r t u => match t, u with
  | .sc (.int i), .sc (.int j) => if C i j then .ok (r, .sc (g i j)) else .stuck
  | _, _ => .stuck
theorem op2_I {G : Gm} {W : WX} {C : Int → Int → Prop} {c : Int → Int → Bool} {g : Int → Int → V} (hc : ∀ i j, c i j = true → C i j) : Op2 G W (rI C g) (gI c g) := by
  intro σ Q B H r B1 H1 r1 v1 v2 t1 t2 s h
  unfold gI at h
  split at h
  · rename_i i j
    have e1 := s.sc (i := 0) rfl rfl
    have e2 := s.sc (i := 1) rfl rfl
    subst e1 e2
    by_cases q : c i j = true
    · rw [if_pos q] at h
      exact ⟨i, j, rfl, rfl, hc i j q, h _ _ _ (s.put rfl)⟩
    · rw [if_neg q] at h
      exact h.elim
  · exact h.elim
end PD
end PartPD3

section PartPD4
set_option Elab.async false
set_option linter.all false
set_option maxRecDepth 100000
set_option maxHeartbeats 4000000
namespace PD
open PySem L2

theorem zip_set {α β : Type} : ∀ (l : List α) (m : List β) (i : Nat) (a : α) (b : β), List.zip (l.set i a) (m.set i b) = (List.zip l m).set i (a, b)
  | [], m, i, a, b => by simp
  | x :: l, [], i, a, b => by cases i <;> simp
  | x :: l, y :: m, 0, a, b => rfl
  | x :: l, y :: m, i + 1, a, b => by
    show (x, y) :: List.zip (l.set i a) (m.set i b) = (x, y) :: (List.zip l m).set i (a, b)
    rw [zip_set l m i a b]
theorem pw_set {α : Type} {R : α → α → Prop} (sy : ∀ a b, R a b → R b a) {m : α} : ∀ {L : List α} (i : Nat), (L ++ [m]).Pairwise R → (L.set i m).Pairwise R
  | [], _, _ => .nil
  | x :: L, 0, h => by
    have h := List.pairwise_cons.mp (show (x :: (L ++ [m])).Pairwise R from h)
    have h2 := List.pairwise_append.mp h.2
    exact List.pairwise_cons.mpr ⟨fun y hy => sy _ _ (h2.2.2 y hy m (List.mem_singleton.mpr rfl)), h2.1⟩
  | x :: L, i + 1, h => by
    have h := List.pairwise_cons.mp (show (x :: (L ++ [m])).Pairwise R from h)
    refine List.pairwise_cons.mpr ⟨fun y hy => ?_, pw_set sy i h.2⟩
    rcases List.mem_or_eq_of_mem_set hy with q | q
    · exact h.1 y (List.mem_append_left _ q)
    · subst q
      exact h.1 y (List.mem_append_right _ (List.mem_singleton.mpr rfl))
theorem sep_sy (e e' : Ent) (h : ∀ a, adr e = some a → adr e' ≠ some a) : ∀ a, adr e' = some a → adr e ≠ some a := fun a h1 h2 => h a h2 h1
def lent : Option T → Bool
  | some (.nd .ln _ _) => true
  | some (.nd .lk _ _) => true
  | _ => false
def isRf : T → Bool
  | .rf _ => true
  | _ => false
section
variable {G : Gm} {B H B1 H1 B2 H2 : Hp} {σ σ1 σ2 : L2.St} {r r1 r2 : Env} {vs ws : List V} {ts us : List T}
theorem SS.init (s : SS G B H σ r B1 H1 σ1 r1 vs ts) : Init G B1 H1 σ1 r1 where
  len := s.len
  nr := s.nr
  ps := s.ps
  st := by
    have z := s.stp.st
    refine ⟨z.sub, fun x hx => ?_, (List.pairwise_append.mp z.sep).1, z.floor⟩
    exact rep_idx (fun i y ei _ => absurd (s.nr x hx i ei) (Nat.not_lt_zero i)) (z.rep x (List.mem_append_left _ hx))
theorem SS.drop (s : SS G B H σ r B1 H1 σ1 r1 vs ts) : Stp G B H (zl σ r) B1 H1 (zl σ1 r1) := by
  have z := s.stp
  exact { st := s.init.st, ex := z.ex, fr := z.fr, nw := fun a h => z.nw a (own_app.mpr (.inl h)), ww := fun a h => z.ww a (wr_app.mpr (.inl h)), nb := z.nb }
theorem SS.app (p : SS G B H σ r B1 H1 σ1 r1 vs ts) (q : SS G B1 H1 σ1 r1 B2 H2 σ2 r2 ws us) : SS G B H σ r B2 H2 σ2 r2 ws us where
  len := q.len
  ls := q.ls.trans p.ls
  lv := q.lv
  nr := q.nr
  rn := q.rn
  kp := p.kp.trans q.kp
  stp := p.drop.trans q.stp
  ps := q.ps
theorem SS.refl (i : Init G B H σ r) : SS G B H σ r B H σ r [] [] where
  len := i.len
  ls := rfl
  lv := rfl
  nr := i.nr
  rn := fun _ h => by cases h
  kp := Kept.refl _
  ps := i.ps
  stp := by
    show Stp G B H (zl σ r) B H (zl σ r ++ [])
    rw [List.append_nil]
    exact Stp.refl i.st
theorem ES.ss0 (s : ES G B H σ r B1 H1 r1 vs ts) : SS G B H σ r B1 H1 σ r1 [] [] where
  len := s.len
  ls := rfl
  lv := rfl
  nr := s.es.nr
  rn := fun _ h => by cases h
  kp := s.es.ke.kept
  ps := s.ps
  stp := s.drop.es.stp
theorem ES.ss {v : V} {t : T} (s : ES G B H σ r B1 H1 r1 [v] [t]) (h : isRf t = false) : SS G B H σ r B1 H1 σ r1 [v] [t] where
  len := s.len
  ls := rfl
  lv := rfl
  nr := s.es.nr
  rn := fun e he i ei => by
    have e1 : e = (some v, some t) := List.mem_singleton.mp he
    subst e1
    cases ei
    cases h
  kp := s.es.ke.kept
  ps := s.ps
  stp := s.es.stp
/-- the value on the way goes into slot i -/
theorem ES.set {v : V} {t : T} (s : ES G B H σ r B1 H1 r1 [v] [t]) (i : Nat) (h : isRf t = false) (hl : lent (r1[i]?.join) = false) (hp : G.hit i = false) : SS G B H σ r B1 H1 (σ.set i (some v)) (r1.set i (some t)) [] [] := by
  have e0 : zl (σ.set i (some v)) (r1.set i (some t)) = (zl σ r1).set i (some v, some t) := zip_set _ _ _ _ _
  have st := s.es.stp.st
  have hm : ∀ e, e ∈ (zl σ r1).set i (some v, some t) → e ∈ zl σ r1 ++ [(some v, some t)] := fun e he => by
    rcases List.mem_or_eq_of_mem_set he with q | q
    · exact List.mem_append_left _ q
    · exact List.mem_append_right _ (List.mem_singleton.mpr q)
  have nr : Refs 0 ((zl σ r1).set i (some v, some t)) := fun e he j ej => by
    rcases List.mem_or_eq_of_mem_set he with q | q
    · exact s.es.nr e q j ej
    · subst q
      cases ej
      cases h
  refine { len := by rw [List.length_set, List.length_set, s.len], ls := List.length_set, lv := rfl, nr := by rw [e0]; exact nr, rn := fun _ h => (by cases h), kp := ?_, stp := ?_, ps := s.ps.set hp _ }
  · rw [e0]
    intro j w f k xs e l
    obtain ⟨ys, e1⟩ := s.es.ke.kept j w f k xs e l
    have nij : i ≠ j := fun q => by
      subst q
      have e2 := (zl_get e1).2
      rw [e2] at hl
      rcases l with l | l
      · subst l
        cases hl
      · subst l
        cases hl
    exact ⟨ys, by rw [List.getElem?_set_ne nij]; exact e1⟩
  · show Stp G B H (zl σ r) B1 H1 (zl (σ.set i (some v)) (r1.set i (some t)) ++ [])
    rw [List.append_nil, e0]
    have z := s.es.stp
    refine { st := ⟨st.sub, fun e he => ?_, pw_set sep_sy i st.sep, st.floor⟩, ex := z.ex, fr := z.fr, nw := fun a ⟨e, he, ha⟩ => z.nw a ⟨e, hm e he, ha⟩, ww := fun a ⟨f, k, xs, he, ha⟩ => z.ww a ⟨f, k, xs, hm _ he, ha⟩, nb := z.nb }
    exact rep_idx (fun j y ej _ => absurd (nr e he j ej) (Nat.not_lt_zero j)) (st.rep e (hm e he))
/-! ### what follows, seen from a later state -/
theorem dSp.later {W : WX} {D : Ends} {o : Res Out} (s : SS G B H σ r B1 H1 σ1 r1 [] []) (h : dSp G W D σ B H r o) : dSp G W D σ1 B1 H1 r1 o := by
  cases o with
  | ok o =>
    cases o with
    | nx r2 => exact fun σ2 B2 H2 q => h σ2 B2 H2 (s.app q)
    | bk r2 => exact fun σ2 B2 H2 q => h σ2 B2 H2 (s.app q)
    | ct r2 => exact fun σ2 B2 H2 q => h σ2 B2 H2 (s.app q)
    | rt r2 t => exact fun v σ2 B2 H2 q => h v σ2 B2 H2 (s.app q)
  | err r2 c fs => exact fun d B2 H2 σ2 q x => h d B2 H2 σ2 (s.app q) x
  | stuck => exact h
theorem wErrS.of {W : WX} {c : Nat} {fs : List T} (h : wErrS G W B H σ r r2 c fs) : wErr G W B H σ r r2 c fs := fun d B' H' q x => h d B' H' σ q.ss0 x
end
/-! ### statements -/
def sNx : XS := fun r => .ok (.nx r)
def sBk : XS := fun r => .ok (.bk r)
def sCt : XS := fun r => .ok (.ct r)
def sNever : XS := fun _ => .stuck
def setS (i : Nat) (t : T) : XS := fun r => if isRf t || lent (r[i]?.join) then .stuck else .ok (.nx (r.set i (some t)))
def sSet (i : Nat) (f : XE) : XS := fun r => match f r with
  | .ok (r1, t) => setS i t r1
  | .err r c fs => .err r c fs
  | .stuck => .stuck
def sRet (f : XE) : XS := fun r => match f r with
  | .ok (r1, t) => if isRf t then .stuck else .ok (.rt r1 t)
  | .err r c fs => .err r c fs
  | .stuck => .stuck
def sRetN : XS := fun r => .ok (.rt r .non)
def sExpr (f : XE) : XS := fun r => match f r with
  | .ok (r1, _) => .ok (.nx r1)
  | .err r c fs => .err r c fs
  | .stuck => .stuck
def testK (x : Res (Env × Bool)) (a b : XS) : Res Out := match x with
  | .ok (r1, true) => a r1
  | .ok (r1, false) => b r1
  | .err r c fs => .err r c fs
  | .stuck => .stuck
def loopK (o : Res Out) (k : XS) : Res Out := match o with
  | .ok (.nx r) => k r
  | .ok (.ct r) => k r
  | .ok (.bk r) => .ok (.nx r)
  | .ok (.rt r t) => .ok (.rt r t)
  | .err r c fs => .err r c fs
  | .stuck => .stuck
def sIf (c : XT) (a b : XS) : XS := fun r => testK (c r) a b
section
variable {G : Gm} {W : WX} {X : Cx} {f g : XS} {fe : XE} {e : Expr} {st : Stmt} {rest : List Stmt} {pos : Pos}
theorem ds_pass : PS X (.Pass pos) (dS G W sNx) := PS.imp ps_pass fun D σ H h => by
  obtain ⟨B, r, i, h⟩ := h
  exact h σ B H (SS.refl i)
theorem dss_nil : PSs X [] (dS G W sNx) := PSs.imp pss_nil fun D σ H h => by
  obtain ⟨B, r, i, h⟩ := h
  exact h σ B H (SS.refl i)
theorem ds_break : PS X (.Break pos) (dS G W sBk) := PS.imp ps_break fun D σ H h => by
  obtain ⟨B, r, i, h⟩ := h
  exact h σ B H (SS.refl i)
theorem ds_cont : PS X (.Continue pos) (dS G W sCt) := PS.imp ps_continue fun D σ H h => by
  obtain ⟨B, r, i, h⟩ := h
  exact h σ B H (SS.refl i)
theorem ds_never : PS X st (dS G W sNever) := PS.imp ps_never fun D σ H h => by
  obtain ⟨B, r, i, h⟩ := h
  exact h.elim
theorem dss_cons (h1 : PS X st (dS G W f)) (h2 : PSs X rest (dS G W g)) : PSs X (st :: rest) (dS G W (f.andThen g)) := PSs.imp (pss_cons h1 h2) fun D σ H h => by
  obtain ⟨B, r, i, h⟩ := h
  refine ⟨B, r, i, ?_⟩
  unfold XS.andThen at h
  cases e : f r with
  | ok o =>
    rw [e] at h
    cases o with
    | nx r1 => exact fun σ1 B1 H1 s => ⟨B1, r1, s.init, dSp.later s h⟩
    | bk r1 => exact h
    | ct r1 => exact h
    | rt r1 t => exact h
  | err r1 c fs =>
    rw [e] at h
    exact h
  | stuck =>
    rw [e] at h
    exact h
theorem dss_one (h1 : PS X st (dS G W f)) : PSs X [st] (dS G W f) := pss_one h1
theorem ds_ret (h : PE X e (dE G W fe)) : PS X (.Return (some e) pos) (dS G W (sRet fe)) := PS.imp (ps_ret h) fun D σ H h => by
  obtain ⟨B, r, i, h⟩ := h
  refine ⟨B, r, i, ?_⟩
  unfold sRet at h
  cases e : fe r with
  | ok p =>
    obtain ⟨r1, t⟩ := p
    rw [e] at h
    intro v B1 H1 s
    cases q : isRf t with
    | true =>
      simp only [q, if_true] at h
      exact h.elim
    | false =>
      simp only [q, Bool.false_eq_true, if_false] at h
      exact h v σ B1 H1 (s.ss q)
  | err r1 c fs =>
    rw [e] at h
    exact wErrS.of h
  | stuck =>
    rw [e] at h
    exact h
theorem ds_retN : PS X (.Return none pos) (dS G W sRetN) := PS.imp ps_retN fun D σ H h => by
  obtain ⟨B, r, i, h⟩ := h
  exact h .non σ B H ((i.es.put (v := .non) (t := .non) rfl).ss rfl)
theorem ds_expr (h : PE X e (dE G W fe)) (hs : swapsWith e none pos.line X.env = pure false := by rfl) : PS X (.Expr e pos) (dS G W (sExpr fe)) := PS.imp (ps_expr h hs) fun D σ H h => by
  obtain ⟨B, r, i, h⟩ := h
  refine ⟨B, r, i, ?_⟩
  unfold sExpr at h
  cases e : fe r with
  | ok p =>
    obtain ⟨r1, t⟩ := p
    rw [e] at h
    exact fun v B1 H1 s => h σ B1 H1 s.ss0
  | err r1 c fs =>
    rw [e] at h
    exact wErrS.of h
  | stuck =>
    rw [e] at h
    exact h
theorem ds_set {i : Nat} {x : Str} {pos' : Pos} (hN : X.N.Nodup) (h : PE X e (dE G W fe)) (hi : X.N[i]? = some x := by rfl) (hp : G.hit i = false := by rfl) (hx : L2.Loc X.env.scope x := by exact Or.inl rfl) (hs : swapsWith e (some (.Name x pos')) pos.line X.env = pure false := by rfl) (hf : X.fn x = true ∨ X.env.scope.names.lookup x = some .local := by first | exact .inl rfl | exact .inr rfl) : PS X (.Assign [.Name x pos'] e pos) (dS G W (sSet i fe)) := PS.imp (ps_set hN hi hx h hs (hf := hf)) fun D σ H h => by
  obtain ⟨B, r, ini, h⟩ := h
  refine ⟨B, r, ini, ?_⟩
  unfold sSet at h
  cases e : fe r with
  | ok p =>
    obtain ⟨r1, t⟩ := p
    rw [e] at h
    intro v B1 H1 s
    have h2 : dSp G W D σ B H r (setS i t r1) := h
    unfold setS at h2
    cases q : (isRf t || lent (r1[i]?.join)) with
    | true =>
      simp only [q, if_true] at h2
      exact h2.elim
    | false =>
      simp only [q, Bool.false_eq_true, if_false] at h2
      obtain ⟨q1, q2⟩ := Bool.or_eq_false_iff.mp q
      exact h2 _ B1 H1 (s.set i q1 q2 hp)
  | err r1 c fs =>
    rw [e] at h
    exact wErrS.of h
  | stuck =>
    rw [e] at h
    exact h
end
theorem dT_test {G : Gm} {W : WX} {D : Ends} {fc : XT} {a b : XS} {σ : L2.St} {B H : Hp} {r : Env} {R : Bool → Hp → Prop} (ini : Init G B H σ r) (h : dSp G W D σ B H r (testK (fc r) a b))
    (ht : ∀ B1 H1 r1, SS G B H σ r B1 H1 σ r1 [] [] → dSp G W D σ B H r (a r1) → R true H1) (hf : ∀ B1 H1 r1, SS G B H σ r B1 H1 σ r1 [] [] → dSp G W D σ B H r (b r1) → R false H1) : dT G W fc σ H R := by
  refine ⟨B, r, ini, ?_⟩
  cases e : fc r with
  | ok p =>
    obtain ⟨r1, t⟩ := p
    rw [e] at h
    intro B1 H1 s
    cases t with
    | true => exact ht B1 H1 r1 s.ss0 h
    | false => exact hf B1 H1 r1 s.ss0 h
  | err r1 c fs =>
    rw [e] at h
    exact wErrS.of h
  | stuck =>
    rw [e] at h
    exact h
theorem dS_loop {G : Gm} {W : WX} {D : Ends} {fb k : XS} {σ : L2.St} {B H B1 H1 : Hp} {r r1 : Env} {N : L2.St → Hp → Prop} (s : SS G B H σ r B1 H1 σ r1 [] []) (h : dSp G W D σ B H r (loopK (fb r1) k))
    (hn : ∀ B2 H2 σ2 r2, SS G B H σ r B2 H2 σ2 r2 [] [] → dSp G W D σ2 B2 H2 r2 (k r2) → N σ2 H2) : dS G W fb { D with nx := N, ct := N, bk := D.nx } σ H1 := by
  refine ⟨B1, r1, s.init, ?_⟩
  cases eb : fb r1 with
  | ok o =>
    rw [eb] at h
    cases o with
    | nx r2 => exact fun σ2 B2 H2 q => hn B2 H2 σ2 r2 (s.app q) (dSp.later (s.app q) h)
    | ct r2 => exact fun σ2 B2 H2 q => hn B2 H2 σ2 r2 (s.app q) (dSp.later (s.app q) h)
    | bk r2 => exact fun σ2 B2 H2 q => h σ2 B2 H2 (s.app q)
    | rt r2 t => exact fun v σ2 B2 H2 q => h v σ2 B2 H2 (s.app q)
  | err r2 c fs =>
    rw [eb] at h
    exact fun d B2 H2 σ2 q x => h d B2 H2 σ2 (s.app q) x
  | stuck =>
    rw [eb] at h
    exact h
theorem ds_if {G : Gm} {W : WX} {X : Cx} {f g : XS} {pos : Pos} {c : Expr} {a b : List Stmt} {fc : XT} (hc : PT X c (dT G W fc)) (ha : PSs X a (dS G W f)) (hb : PSs X b (dS G W g)) : PS X (.If c a b pos) (dS G W (sIf fc f g)) := PS.imp (ps_if hc ha hb) fun D σ H h => by
  obtain ⟨B, r, ini, h⟩ := h
  refine dT_test ini h (fun B1 H1 r1 s h1 => ?_) fun B1 H1 r1 s h1 => ?_
  · rw [if_pos rfl]
    exact ⟨B1, r1, s.init, dSp.later s h1⟩
  · rw [if_neg Bool.false_ne_true]
    exact ⟨B1, r1, s.init, dSp.later s h1⟩
/-! ### while -/
def whN (c : XT) (b : XS) : Nat → XS
  | 0 => fun _ => .stuck
  | n + 1 => fun r => testK (c r) (fun r1 => loopK (b r1) (whN c b n)) sNx
theorem whN_eq (c : XT) (b : XS) (n : Nat) (r : Env) : whN c b (n + 1) r = testK (c r) (fun r1 => loopK (b r1) (whN c b n)) sNx := rfl
theorem whN_succ {c : XT} {b : XS} : ∀ {n : Nat} {r : Env}, whN c b n r ≠ .stuck → whN c b (n + 1) r = whN c b n r
  | 0, r, h => absurd rfl h
  | n + 1, r, h => by
    rw [whN_eq] at h
    rw [whN_eq c b (n + 1), whN_eq c b n]
    cases ec : c r with
    | ok p =>
      obtain ⟨r1, t⟩ := p
      rw [ec] at h
      cases t with
      | true =>
        show loopK (b r1) (whN c b (n + 1)) = loopK (b r1) (whN c b n)
        have h2 : loopK (b r1) (whN c b n) ≠ .stuck := h
        cases eb : b r1 with
        | ok o =>
          rw [eb] at h2
          cases o with
          | nx r2 => exact whN_succ (r := r2) h2
          | ct r2 => exact whN_succ (r := r2) h2
          | bk r2 => rfl
          | rt r2 t => rfl
        | err r c fs => rfl
        | stuck => rfl
      | false => rfl
    | err r c fs => rfl
    | stuck => rfl
theorem whN_le {c : XT} {b : XS} {n m : Nat} {r : Env} (h : whN c b n r ≠ .stuck) (l : n ≤ m) : whN c b m r = whN c b n r := by
  induction l with
  | refl => rfl
  | step l ih => rw [whN_succ (by rw [ih]; exact h), ih]
open Classical in
noncomputable def sWh (c : XT) (b : XS) : XS := fun r => if h : ∃ n, whN c b n r ≠ .stuck then whN c b h.choose r else .stuck
theorem sWh_of {c : XT} {b : XS} {n : Nat} {r : Env} (h : whN c b n r ≠ .stuck) : sWh c b r = whN c b n r := by
  have hx : ∃ n, whN c b n r ≠ .stuck := ⟨n, h⟩
  unfold sWh
  rw [dif_pos hx]
  have h2 := hx.choose_spec
  rcases Nat.le_total n hx.choose with l | l
  · exact whN_le h l
  · exact (whN_le h2 l).symm
theorem sWh_ex {c : XT} {b : XS} {r : Env} : ∃ n, sWh c b r = whN c b n r := by
  by_cases hx : ∃ n, whN c b n r ≠ .stuck
  · obtain ⟨n, h⟩ := hx
    exact ⟨n, sWh_of h⟩
  · refine ⟨0, ?_⟩
    unfold sWh
    rw [dif_neg hx]
    rfl
theorem sWh_eq (c : XT) (b : XS) (r : Env) : sWh c b r = testK (c r) (fun r1 => loopK (b r1) (sWh c b)) sNx := by
  have key : ∀ r2, (∀ n, whN c b (n + 1) r = whN c b n r2) → sWh c b r = sWh c b r2 := fun r2 h => by
    by_cases hx : ∃ n, whN c b n r2 ≠ .stuck
    · obtain ⟨n, hn⟩ := hx
      rw [sWh_of hn, ← h n]
      exact sWh_of (by rw [h n]; exact hn)
    · have h1 : sWh c b r2 = .stuck := by
        unfold sWh
        rw [dif_neg hx]
      rw [h1]
      unfold sWh
      rw [dif_neg]
      rintro ⟨n, hn⟩
      cases n with
      | zero => exact hn rfl
      | succ n => exact hx ⟨n, by rw [← h n]; exact hn⟩
  have one : ∀ o : Res Out, (∀ n, whN c b (n + 1) r = o) → sWh c b r = o := fun o h => by
    by_cases hs : o = .stuck
    · unfold sWh
      rw [dif_neg, hs]
      rintro ⟨n, hn⟩
      cases n with
      | zero => exact hn rfl
      | succ n => exact hn (by rw [h n, hs])
    · rw [sWh_of (n := 1) (by rw [h 0]; exact hs), h 0]
  cases ec : c r with
  | ok p =>
    obtain ⟨r1, t⟩ := p
    cases t with
    | true =>
      show _ = loopK (b r1) (sWh c b)
      have e2 : ∀ n, whN c b (n + 1) r = loopK (b r1) (whN c b n) := fun n => by
        rw [whN_eq, ec]
        rfl
      cases eb : b r1 with
      | ok o =>
        rw [eb] at e2
        cases o with
        | nx r2 => exact key r2 e2
        | ct r2 => exact key r2 e2
        | bk r2 => exact one _ e2
        | rt r2 t => exact one _ e2
      | err r c fs =>
        rw [eb] at e2
        exact one _ e2
      | stuck =>
        rw [eb] at e2
        exact one _ e2
    | false => exact one _ (fun n => by rw [whN_eq, ec]; rfl)
  | err r1 c fs => exact one _ (fun n => by rw [whN_eq, ec]; rfl)
  | stuck => exact one _ (fun n => by rw [whN_eq, ec]; rfl)
theorem ds_while {G : Gm} {W : WX} {X : Cx} {c : Expr} {body : List Stmt} {pos : Pos} {fc : XT} {fb : XS} (hp : PassesOwn (model X.prog X.w) X.A X.env X.xe) (hc : PT X c (dT G W fc)) (hb : PSs X body (dS G W fb)) : PS X (.While c body [] pos) (dS G W (sWh fc fb)) :=
  PS.imp (ps_while hp hc hb) fun D σ H h => by
  obtain ⟨B, r, ini, h⟩ := h
  obtain ⟨n, en⟩ := sWh_ex (c := fc) (b := fb) (r := r)
  rw [en] at h
  refine ⟨fun m σ H => ∃ B r, Init G B H σ r ∧ dSp G W D σ B H r (whN fc fb m r), ⟨n, B, r, ini, h⟩, ?_⟩
  rintro m σ H ⟨B, r, ini, h⟩
  cases m with
  | zero => exact h.elim
  | succ m =>
    refine dT_test ini h (fun B1 H1 r1 s h1 => ?_) fun B1 H1 r1 s h1 => ?_
    · rw [if_pos rfl]
      exact ⟨fun σ' H' => ∃ B r, Init G B H' σ' r ∧ dSp G W D σ' B H' r (whN fc fb m r), fun σ' H' z => ⟨m, Nat.lt_succ_self m, z⟩, dS_loop s h1 fun B2 H2 σ2 r2 q h2 => ⟨B2, r2, q.init, h2⟩⟩
    · rw [if_neg Bool.false_ne_true]
      exact h1 σ B1 H1 s
end PD
end PartPD4

section PartPD5
set_option Elab.async false
set_option linter.all false
set_option maxRecDepth 100000
set_option maxHeartbeats 4000000
namespace PD
open PySem L2

/-! ### lending -/
abbrev FT := List T → Res (Env × T)
def lendF : Fl → Fl
  | .ow => .ln
  | .ln => .ln
  | .lk => .lk
  | .sh => .sh
def lend (r : Env) (t : T) : T := match t with
  | .rf j => (match r[j]? with
    | some (some (.nd f k xs)) => .nd (lendF f) k xs
    | _ => .rf j)
  | .nd .ow (.ins c) xs => .nd .ln (.ins c) xs
  | t => t
def give (r : Env) (j : Nat) (c : Option T) : Env := match r[j]?, c with
  | some (some (.nd f _ _)), some (.nd _ k ys) => if owf f then r.set j (some (.nd f k ys)) else r
  | _, _ => r
def back : Env → List T → Env → Env
  | r, .rf j :: ts, c :: rc => back (give r j c) ts rc
  | r, .sc _ :: ts, _ :: rc => back r ts rc
  | r, .nd _ _ _ :: ts, _ :: rc => back r ts rc
  | r, _, _ => r
def refs : List T → List Nat
  | [] => []
  | .rf j :: ts => j :: refs ts
  | _ :: ts => refs ts
def entry (n : Nat) (ts : List T) : Env := ts.map some ++ List.replicate (n - ts.length) none
def nodupB (l : List Nat) : Bool := decide l.Nodup
theorem give_len (r : Env) (j : Nat) (c : Option T) : (give r j c).length = r.length := by
  unfold give
  split
  · split
    · exact List.length_set
    · rfl
  · rfl
theorem give_ne (r : Env) (j i : Nat) (c : Option T) (h : j ≠ i) : (give r j c)[i]? = r[i]? := by
  unfold give
  split
  · split
    · exact List.getElem?_set_ne h
    · rfl
  · rfl
theorem back_len : ∀ (ts : List T) (r rc : Env), (back r ts rc).length = r.length
  | [], r, rc => by unfold back <;> rfl
  | .rf j :: ts, r, c :: rc => by
    show (back (give r j c) ts rc).length = _
    rw [back_len ts, give_len]
  | .sc _ :: ts, r, _ :: rc => back_len ts r rc
  | .nd _ _ _ :: ts, r, _ :: rc => back_len ts r rc
  | .rf j :: ts, r, [] => rfl
  | .sc _ :: ts, r, [] => rfl
  | .nd _ _ _ :: ts, r, [] => rfl
theorem back_out : ∀ (ts : List T) (r rc : Env) (i : Nat), i ∉ refs ts → (back r ts rc)[i]? = r[i]?
  | [], r, rc, i, _ => by unfold back <;> rfl
  | .rf j :: ts, r, c :: rc, i, h => by
    show (back (give r j c) ts rc)[i]? = _
    have h' : i ∉ j :: refs ts := h
    rw [back_out ts _ rc i (fun z => h' (List.mem_cons_of_mem _ z)), give_ne r j i c fun z => h' (z ▸ List.mem_cons_self ..)]
  | .sc _ :: ts, r, _ :: rc, i, h => back_out ts r rc i h
  | .nd _ _ _ :: ts, r, _ :: rc, i, h => back_out ts r rc i h
  | .rf j :: ts, r, [], i, _ => rfl
  | .sc _ :: ts, r, [], i, _ => rfl
  | .nd _ _ _ :: ts, r, [], i, _ => rfl
def gvv (o : Option (Option T)) (c : Option T) : Option (Option T) := match o, c with
  | some (some (.nd f _ _)), some (.nd _ k ys) => if owf f then some (some (.nd f k ys)) else o
  | _, _ => o
theorem give_at (r : Env) (j : Nat) (c : Option T) : (give r j c)[j]? = gvv r[j]? c := by
  unfold give gvv
  cases e : r[j]? with
  | none => exact e
  | some o =>
    have lt : j < r.length := by
      rcases Nat.lt_or_ge j r.length with q | q
      · exact q
      · rw [List.getElem?_eq_none q] at e
        cases e
    cases o with
    | none => exact e
    | some t =>
      cases t with
      | sc _ => exact e
      | rf _ => exact e
      | nd f k xs =>
        cases c with
        | none => exact e
        | some u =>
          cases u with
          | sc _ => exact e
          | rf _ => exact e
          | nd f' k' ys =>
            show (if owf f then r.set j (some (.nd f k' ys)) else r)[j]? = if owf f then some (some (.nd f k' ys)) else some (some (.nd f k xs))
            by_cases q : owf f = true
            · rw [if_pos q, if_pos q, List.getElem?_set_self lt]
            · rw [if_neg q, if_neg q, e]
theorem mem_refs {j : Nat} : ∀ {ts : List T} {p : Nat}, ts[p]? = some (T.rf j) → j ∈ refs ts := by
  intro ts
  induction ts with
  | nil => intro p h; simp at h
  | cons t ts ih =>
    intro p h
    cases p with
    | zero =>
      simp at h
      subst h
      exact List.mem_cons_self ..
    | succ p =>
      have z := ih (p := p) (by simpa using h)
      cases t with
      | rf k => exact List.mem_cons_of_mem _ z
      | sc _ => exact z
      | nd _ _ _ => exact z
theorem back_in : ∀ (ts : List T) (r rc : Env) (p j : Nat) (c : Option T), (refs ts).Nodup → ts[p]? = some (T.rf j) → rc[p]? = some c → (back r ts rc)[j]? = gvv r[j]? c
  | [], r, rc, p, j, c, _, h, _ => by simp at h
  | .rf i :: ts, r, d :: rc, 0, j, c, hn, h, hc => by
    simp at h hc
    subst h hc
    have hn' : (i :: refs ts).Nodup := hn
    exact (back_out ts _ rc i (List.nodup_cons.mp hn').1).trans (give_at r i d)
  | .rf i :: ts, r, d :: rc, p + 1, j, c, hn, h, hc => by
    have hn' : (i :: refs ts).Nodup := hn
    have h' : ts[p]? = some (T.rf j) := by simpa using h
    have nij : i ≠ j := fun z => (List.nodup_cons.mp hn').1 (z ▸ mem_refs h')
    show (back (give r i d) ts rc)[j]? = _
    rw [back_in ts (give r i d) rc p j c (List.nodup_cons.mp hn').2 h' (by simpa using hc), give_ne r i j d nij]
  | .sc _ :: ts, r, _ :: rc, p, j, c, hn, h, hc => by
    cases p with
    | zero => simp at h
    | succ p => exact back_in ts r rc p j c hn (by simpa using h) (by simpa using hc)
  | .nd _ _ _ :: ts, r, _ :: rc, p, j, c, hn, h, hc => by
    cases p with
    | zero => simp at h
    | succ p => exact back_in ts r rc p j c hn (by simpa using h) (by simpa using hc)
  | .rf _ :: ts, r, [], p, j, c, _, _, hc => by simp at hc
  | .sc _ :: ts, r, [], p, j, c, _, _, hc => by simp at hc
  | .nd _ _ _ :: ts, r, [], p, j, c, _, _, hc => by simp at hc
theorem refs_mem {j : Nat} : ∀ {ts : List T}, j ∈ refs ts → ∃ p : Nat, ts[p]? = some (T.rf j)
  | [], h => by cases h
  | .rf i :: ts, h => by
    rcases List.mem_cons.mp (show j ∈ i :: refs ts from h) with e | e
    · exact ⟨0, by rw [e]; rfl⟩
    · obtain ⟨p, hp⟩ := refs_mem e
      exact ⟨p + 1, by simpa using hp⟩
  | .sc _ :: ts, h => by
    obtain ⟨p, hp⟩ := refs_mem (ts := ts) h
    exact ⟨p + 1, by simpa using hp⟩
  | .nd _ _ _ :: ts, h => by
    obtain ⟨p, hp⟩ := refs_mem (ts := ts) h
    exact ⟨p + 1, by simpa using hp⟩
theorem refs_inj {j : Nat} : ∀ {ts : List T} {p q : Nat}, (refs ts).Nodup → ts[p]? = some (T.rf j) → ts[q]? = some (T.rf j) → p = q := by
  intro ts
  induction ts with
  | nil => intro p q _ h; simp at h
  | cons t ts ih =>
    intro p q hn h1 h2
    have tl : (refs ts).Nodup := by
      cases t with
      | rf k => exact (List.nodup_cons.mp (show (k :: refs ts).Nodup from hn)).2
      | sc _ => exact hn
      | nd _ _ _ => exact hn
    cases p with
    | zero =>
      cases q with
      | zero => rfl
      | succ q =>
        simp at h1
        subst h1
        exact absurd (mem_refs (p := q) (ts := ts) (by simpa using h2)) (List.nodup_cons.mp hn).1
    | succ p =>
      cases q with
      | zero =>
        simp at h2
        subst h2
        exact absurd (mem_refs (p := p) (ts := ts) (by simpa using h1)) (List.nodup_cons.mp hn).1
      | succ q =>
        have z1 : ts[p]? = some (T.rf j) := by simpa using h1
        have z2 : ts[q]? = some (T.rf j) := by simpa using h2
        exact congrArg Nat.succ (ih tl z1 z2)

/-- a separated list, by places -/
theorem sep_ix {L : List Ent} (h : L.Pairwise fun e e' => ∀ a, adr e = some a → adr e' ≠ some a) {i j : Nat} {e e' : Ent} {a : Addr} (hi : L[i]? = some e) (hj : L[j]? = some e') (ha : adr e = some a) (hb : adr e' = some a) : i = j := by
  obtain ⟨li, ei⟩ := List.getElem?_eq_some_iff.mp hi
  obtain ⟨lj, ej⟩ := List.getElem?_eq_some_iff.mp hj
  have pw := List.pairwise_iff_getElem.mp h
  rcases Nat.lt_trichotomy i j with q | q | q
  · exact absurd hb (by rw [← ej]; exact pw i j li lj q a (by rw [ei]; exact ha))
  · exact q
  · exact absurd ha (by rw [← ei]; exact pw j i lj li q a (by rw [ej]; exact hb))
theorem ix_sep {L : List Ent} (h : ∀ (i j : Nat) (e e' : Ent) (a : Addr), L[i]? = some e → L[j]? = some e' → adr e = some a → adr e' = some a → i = j) : L.Pairwise fun e e' => ∀ a, adr e = some a → adr e' ≠ some a :=
  List.pairwise_iff_getElem.mpr fun i j li lj q a ha hb => absurd (h i j _ _ a (List.getElem?_eq_getElem li) (List.getElem?_eq_getElem lj) ha hb) (Nat.ne_of_lt q)
theorem zl_app {a b : List (Option V)} {c d : List (Option T)} (h : a.length = c.length) : zl (a ++ b) (c ++ d) = zl a c ++ zl b d := List.zip_append h
theorem zl_none {n m : Nat} {e : Ent} (h : e ∈ zl (List.replicate n none) (List.replicate m none)) : e = (none, none) := by
  obtain ⟨x, y⟩ := e
  have z := List.of_mem_zip h
  have e1 := List.eq_of_mem_replicate z.1
  have e2 := List.eq_of_mem_replicate z.2
  subst e1 e2
  rfl

section
variable {G : Gm} {B H B1 H1 B2 H2 : Hp} {σ : L2.St} {r r1 : Env} {vs : List V} {ts : List T} {N : List Str}
/-- where argument p's entry stands among the caller's entries and values -/
theorem lend_rep (s : ES G B H σ r B1 H1 r1 vs ts) {p : Nat} {v : V} {t : T} (h1 : vs[p]? = some v) (h2 : ts[p]? = some t) :
    isRf (lend r1 t) = false ∧ Rep G B1 H1 [] v (lend r1 t) ∧ ∃ q u, (zl σ r1 ++ prs vs ts)[q]? = some (some v, some u) ∧ (∀ a, adr (some v, some (lend r1 t)) = some a → adr (some v, some u) = some a) ∧ (∀ a, Wr [(some v, some (lend r1 t))] a → Wr (zl σ r1 ++ prs vs ts) a) ∧
      ((q = (zl σ r1).length + p ∧ ∀ j, t ≠ .rf j) ∨ (t = .rf q ∧ q < (zl σ r1).length)) := by
  have rp := s.rep h1 h2
  have at_ : (zl σ r1 ++ prs vs ts)[(zl σ r1).length + p]? = some (some v, some t) := by
    rw [List.getElem?_append_right (Nat.le_add_right _ _), Nat.add_sub_cancel_left]
    unfold prs
    rw [List.getElem?_zip_eq_some]
    simp [h1, h2]
  cases t with
  | sc u => exact ⟨rfl, rp, _, _, at_, fun a h => h, fun a ⟨f, k, xs, hm, hf⟩ => (by cases List.mem_singleton.mp hm), .inl ⟨rfl, fun j e => by cases e⟩⟩
  | nd f k xs =>
    have plain : lend r1 (.nd f k xs) = .nd f k xs → isRf (lend r1 (.nd f k xs)) = false ∧ Rep G B1 H1 [] v (lend r1 (.nd f k xs)) ∧ ∃ q u, (zl σ r1 ++ prs vs ts)[q]? = some (some v, some u) ∧ (∀ a, adr (some v, some (lend r1 (.nd f k xs))) = some a → adr (some v, some u) = some a) ∧ (∀ a, Wr [(some v, some (lend r1 (.nd f k xs)))] a → Wr (zl σ r1 ++ prs vs ts) a) ∧
        ((q = (zl σ r1).length + p ∧ ∀ j, T.nd f k xs ≠ .rf j) ∨ (T.nd f k xs = .rf q ∧ q < (zl σ r1).length)) := fun e => by
      rw [e]
      refine ⟨rfl, rp, _, _, at_, fun a h => h, fun a ⟨f', k', xs', hm, hf⟩ => ?_, .inl ⟨rfl, fun j e => by cases e⟩⟩
      exact wr_app.mpr (.inr ⟨f', k', xs', by rw [List.mem_singleton.mp hm]; exact prs_mem h1 h2, hf⟩)
    cases f with
    | sh => exact plain rfl
    | ln => exact plain rfl
    | lk => exact plain rfl
    | ow =>
      cases k with
      | lst => exact plain rfl
      | tup => exact plain rfl
      | fro => exact plain rfl
      | ins c =>
        refine ⟨rfl, rp, _, _, at_, fun a h => ?_, fun a ⟨f', k', xs', hm, hf⟩ => ?_, .inl ⟨rfl, fun j e => by cases e⟩⟩
        · obtain ⟨f2, k2, xs2, e3, q⟩ := adr_own h
          have ev : v = .ref a := Option.some.inj (congrArg Prod.fst e3)
          rw [ev]
          exact adr_of rfl
        · have z := List.mem_singleton.mp hm
          have ev : V.ref a = v := Option.some.inj (congrArg Prod.fst z)
          exact wr_app.mpr (.inr ⟨.ow, .ins c, xs, by rw [ev]; exact prs_mem h1 h2, rfl⟩)
  | rf j =>
    have lt : j < (zl σ r1).length := by
      rw [s.es.len]
      exact s.es.rn _ (prs_mem h1 h2) j rfl
    obtain ⟨f, k, xs, e⟩ := rp
    have e' := e
    rw [List.getElem?_append_left lt] at e'
    have e2 := (zl_get e').2
    have el : lend r1 (.rf j) = .nd (lendF f) k xs := by
      unfold lend
      simp only [e2]
    have rj := s.init.st.rep _ (List.mem_of_getElem? e')
    rw [el]
    refine ⟨rfl, ?_, j, _, e, fun a h => ?_, fun a ⟨f', k', xs', hm, hf⟩ => ?_, .inr ⟨rfl, lt⟩⟩
    · have rj' : (if owf f then ∃ a vs, v = .ref a ∧ B1 a = none ∧ OwC G H1 a vs k ∧ SRepL G B1 vs xs else SRep G B1 v (.nd f k xs)) := rj
      cases f <;> exact rj'
    · obtain ⟨f2, k2, xs2, e3, q⟩ := adr_own h
      cases e3
      refine adr_of ?_
      cases f <;> first | rfl | cases q
    · have z := List.mem_singleton.mp hm
      cases z
      refine wr_app.mpr (.inl ⟨f, k, xs, List.mem_of_getElem? e', ?_⟩)
      cases f <;> first | rfl | cases hf
theorem start_zl (lv : vs.length = ts.length) : zl (start N vs) (entry N.length ts) = prs vs ts ++ zl (List.replicate (N.length - vs.length) none) (List.replicate (N.length - ts.length) none) := by
  unfold L2.start entry
  exact zl_app (by rw [List.length_map, List.length_map, lv])
theorem start_mem (lv : vs.length = ts.length) {e : Ent} (h : e ∈ zl (start N vs) (entry N.length ts)) : e = (none, none) ∨ ∃ (p : Nat) (v : V) (t : T), e = (some v, some t) ∧ vs[p]? = some v ∧ ts[p]? = some t := by
  rw [start_zl lv] at h
  rcases List.mem_append.mp h with h | h
  · obtain ⟨p, hp⟩ := List.mem_iff_getElem?.mp h
    unfold prs at hp
    rw [List.getElem?_zip_eq_some] at hp
    obtain ⟨h1, h2⟩ := hp
    rw [List.getElem?_map] at h1 h2
    cases e1 : vs[p]? with
    | none =>
      rw [e1] at h1
      cases h1
    | some v =>
      cases e2 : ts[p]? with
      | none =>
        rw [e2] at h2
        cases h2
      | some t =>
        rw [e1] at h1
        rw [e2] at h2
        refine .inr ⟨p, v, t, ?_, e1, e2⟩
        obtain ⟨a, b⟩ := e
        simp at h1 h2
        rw [← h1, ← h2]
  · exact .inl (zl_none h)
theorem start_at (lv : vs.length = ts.length) {p : Nat} {v : V} {t : T} (h1 : vs[p]? = some v) (h2 : ts[p]? = some t) : (zl (start N vs) (entry N.length ts))[p]? = some (some v, some t) := by
  have e : (prs vs ts)[p]? = some (some v, some t) := by
    unfold prs
    rw [List.getElem?_zip_eq_some]
    simp [h1, h2]
  have lt : p < (prs vs ts).length := by
    rcases Nat.lt_or_ge p (prs vs ts).length with q | q
    · exact q
    · rw [List.getElem?_eq_none q] at e
      cases e
  rw [start_zl lv, List.getElem?_append_left lt]
  exact e
theorem start_at' (lv : vs.length = ts.length) {p : Nat} {v : V} {t : T} (h : (zl (start N vs) (entry N.length ts))[p]? = some (some v, some t)) : vs[p]? = some v ∧ ts[p]? = some t := by
  have z := zl_get h
  unfold L2.start entry at z
  have lt : p < vs.length := by
    rcases Nat.lt_or_ge p vs.length with q | q
    · exact q
    · have z1 := z.1
      rw [List.getElem?_append_right (by rw [List.length_map]; exact q)] at z1
      have := List.eq_of_mem_replicate (List.mem_of_getElem? z1)
      cases this
  have z1 := z.1
  have z2 := z.2
  rw [List.getElem?_append_left (by rw [List.length_map]; exact lt), List.getElem?_map] at z1
  rw [List.getElem?_append_left (by rw [List.length_map, ← lv]; exact lt), List.getElem?_map] at z2
  constructor
  · cases e : vs[p]? with
    | none => rw [e] at z1; cases z1
    | some x =>
      rw [e] at z1
      simpa using z1
  · cases e : ts[p]? with
    | none => rw [e] at z2; cases z2
    | some x =>
      rw [e] at z2
      simpa using z2
/-- the callee's first state -/
theorem call_in (s : ES G B H σ r B1 H1 r1 vs ts) (hn : (refs ts).Nodup) (hle : vs.length ≤ N.length) : Init G.toGam.bot B1 H1 (start N vs) (entry N.length (ts.map (lend r1))) := by
  have lv' : vs.length = (ts.map (lend r1)).length := by rw [List.length_map, s.lv]
  have pick : ∀ {p : Nat} {t : T}, (ts.map (lend r1))[p]? = some t → ∃ t0, ts[p]? = some t0 ∧ t = lend r1 t0 := fun {p t} h => by
    rw [List.getElem?_map] at h
    cases e : ts[p]? with
    | none =>
      rw [e] at h
      cases h
    | some t0 =>
      rw [e] at h
      exact ⟨t0, rfl, (Option.some.inj h).symm⟩
  have nr : Refs 0 (zl (start N vs) (entry N.length (ts.map (lend r1)))) := fun e he i ei => by
    rcases start_mem lv' he with q | ⟨p, v, t, rfl, h1, h2⟩
    · rw [q] at ei
      cases ei
    · obtain ⟨t0, h3, rfl⟩ := pick h2
      have z := (lend_rep s h1 h3).1
      have ei' : lend r1 t0 = .rf i := Option.some.inj ei
      rw [ei'] at z
      cases z
  refine { len := ?_, nr := nr, st := ⟨s.es.stp.st.sub, fun e he => ?_, ix_sep fun i j e e' a hi hj ha hb => ?_, fun _ _ h => by cases h⟩, ps := True.intro }
  · unfold L2.start entry
    rw [List.length_append, List.length_append, List.length_map, List.length_map, List.length_replicate, List.length_replicate, lv']
  · rcases start_mem lv' he with q | ⟨p, v, t, rfl, h1, h2⟩
    · rw [q]
      exact trivial
    · obtain ⟨t0, h3, rfl⟩ := pick h2
      obtain ⟨z1, z2, _⟩ := lend_rep s h1 h3
      refine rep_idx (fun i y ei _ => ?_) (show RepO G B1 H1 [] (some v, some (lend r1 t0)) from z2)
      rw [show lend r1 t0 = .rf i from Option.some.inj ei] at z1
      cases z1
  · obtain ⟨f, k, xs, e1, _⟩ := adr_own ha
    obtain ⟨f', k', xs', e1', _⟩ := adr_own hb
    subst e1 e1'
    obtain ⟨h1, h2⟩ := start_at' lv' hi
    obtain ⟨h1', h2'⟩ := start_at' lv' hj
    obtain ⟨t0, h3, e3⟩ := pick h2
    obtain ⟨t0', h3', e3'⟩ := pick h2'
    obtain ⟨_, _, q, u, hq, hqa, _, hqp⟩ := lend_rep s h1 h3
    obtain ⟨_, _, q', u', hq', hqa', _, hqp'⟩ := lend_rep s h1' h3'
    rw [← e3] at hqa
    rw [← e3'] at hqa'
    have eq := sep_ix s.es.stp.st.sep hq hq' (hqa a ha) (hqa' a hb)
    subst eq
    rcases hqp with ⟨e4, _⟩ | ⟨e4, l4⟩
    · rcases hqp' with ⟨e5, _⟩ | ⟨e5, l5⟩
      · omega
      · omega
    · rcases hqp' with ⟨e5, _⟩ | ⟨e5, l5⟩
      · omega
      · subst e4 e5
        exact refs_inj hn h3 h3'
theorem lend_own {p : Nat} {v : V} {t : T} (s : ES G B H σ r B1 H1 r1 vs ts) (h1 : vs[p]? = some v) (h2 : ts[p]? = some t) {a : Addr} (ha : Own [(some v, some (lend r1 t))] a) : Own (zl σ r1 ++ prs vs ts) a := by
  obtain ⟨e, he, hb⟩ := ha
  have e1 := List.mem_singleton.mp he
  subst e1
  obtain ⟨_, _, q, u, hq, hqa, _⟩ := lend_rep s h1 h2
  exact ⟨_, List.mem_of_getElem? hq, hqa a hb⟩
/-- behind the call -/
theorem call_outs {rc : Env} {σ2 : L2.St} {ws0 ws : List V} {us0 us : List T} (s : ES G B H σ r B1 H1 r1 vs ts) (hn : (refs ts).Nodup) (hle : vs.length ≤ N.length) (c : SS G.toGam.bot B1 H1 (start N vs) (entry N.length (ts.map (lend r1))) B2 H2 σ2 rc ws0 us0)
    (lws : ws.length = us.length) (rnw : Refs 0 (prs ws us)) (hrep : ∀ e ∈ prs ws us, RepO G B2 H2 [] e) (hsep : (prs ws us).Pairwise fun e e' => ∀ a, adr e = some a → adr e' ≠ some a)
    (hcross : ∀ (p j : Nat) (e e' : Ent) (a : Addr), ts[p]? = some (T.rf j) → (zl σ2 rc)[p]? = some e → e' ∈ prs ws us → adr e = some a → adr e' ≠ some a)
    (hown : ∀ a, Own (prs ws us) a → Own (zl σ2 rc ++ prs ws0 us0) a) (hwr : ∀ a, Wr (prs ws us) a → Wr (zl σ r1 ++ prs vs ts) a ∨ H1 a = none) :
    ES G B H σ r B2 H2 (back r1 ts rc) ws us := by
  have lv' : vs.length = (ts.map (lend r1)).length := by rw [List.length_map, s.lv]
  have ini := call_in (N := N) s hn hle
  have st1 := s.es.stp.st
  have pick : ∀ {p : Nat} {t : T}, (ts.map (lend r1))[p]? = some t → ∃ t0, ts[p]? = some t0 ∧ t = lend r1 t0 := fun {p t} h => by
    rw [List.getElem?_map] at h
    cases e : ts[p]? with
    | none =>
      rw [e] at h
      cases h
    | some t0 =>
      rw [e] at h
      exact ⟨t0, rfl, (Option.some.inj h).symm⟩
  -- what the callee may touch, the caller holds
  have own0 : ∀ a, Own (zl (start N vs) (entry N.length (ts.map (lend r1)))) a → ∃ (p : Nat) (t0 : T), vs[p]? = some (.ref a) ∧ ts[p]? = some t0 ∧ Own [(some (.ref a), some (lend r1 t0))] a := fun a ⟨e, he, ha⟩ => by
    rcases start_mem lv' he with q | ⟨p, v, t, rfl, h1, h2⟩
    · rw [q] at ha
      cases ha
    · obtain ⟨t0, h3, rfl⟩ := pick h2
      obtain ⟨f, k, xs, e1, e2⟩ := adr_own ha
      have ev : v = .ref a := Option.some.inj (congrArg Prod.fst e1)
      subst ev
      exact ⟨p, t0, h1, h3, _, List.mem_singleton.mpr rfl, ha⟩
  have wr0 : ∀ a, Wr (zl (start N vs) (entry N.length (ts.map (lend r1)))) a → Wr (zl σ r1 ++ prs vs ts) a := fun a ⟨f, k, xs, he, hf⟩ => by
    rcases start_mem lv' he with q | ⟨p, v, t, e, h1, h2⟩
    · cases q
    · obtain ⟨t0, h3, rfl⟩ := pick h2
      obtain ⟨_, _, _, _, _, _, hw, _⟩ := lend_rep s h1 h3
      exact hw a ⟨f, k, xs, List.mem_singleton.mpr e, hf⟩
  have ow0 : ∀ a, Own (zl (start N vs) (entry N.length (ts.map (lend r1)))) a → Own (zl σ r1 ++ prs vs ts) a := fun a h => by
    obtain ⟨p, t0, h1, h2, h3⟩ := own0 a h
    exact lend_own s h1 h2 h3
  have len2 : (back r1 ts rc).length = r1.length := back_len ts r1 rc
  have zlen : (zl σ r1).length = σ.length := zl_len s.len
  -- each slot of the caller, afterwards
  have slot : ∀ (j : Nat) (v : V) (t : T), (zl σ (back r1 ts rc))[j]? = some (some v, some t) →
      ((zl σ r1)[j]? = some (some v, some t) ∧ (∀ a f k xs, v = .ref a → t = .nd f k xs → owf f = true → ¬ Own (zl (start N vs) (entry N.length (ts.map (lend r1)))) a)) ∨
      ∃ (f : Fl) (k : Kd) (xs ys : List T) (p : Nat), t = T.nd f k ys ∧ owf f = true ∧ (zl σ r1)[j]? = some (some v, some (T.nd f k xs)) ∧ ts[p]? = some (T.rf j) ∧ (zl σ2 rc)[p]? = some (some v, some (T.nd (lendF f) k ys)) := fun j v t h => by
    obtain ⟨h1, h2⟩ := zl_get h
    have untouched : (∀ p, ts[p]? ≠ some (T.rf j)) → ∀ f k xs a, (zl σ r1)[j]? = some (some v, some (.nd f k xs)) → owf f = true → v = .ref a → ¬ Own (zl (start N vs) (entry N.length (ts.map (lend r1)))) a := fun hj f k xs a e q ev ow => by
      obtain ⟨p, t0, g1, g2, g3⟩ := own0 a ow
      obtain ⟨_, _, i, u, hq, hqa, _, hqp⟩ := lend_rep s g1 g2
      obtain ⟨e3, he3, ha3⟩ := g3
      rw [List.mem_singleton.mp he3] at ha3
      have lt : j < (zl σ r1).length := by
        rcases Nat.lt_or_ge j (zl σ r1).length with q | q
        · exact q
        · rw [List.getElem?_eq_none q] at e
          cases e
      have e' : (zl σ r1 ++ prs vs ts)[j]? = some (some v, some (.nd f k xs)) := by rw [List.getElem?_append_left lt]; exact e
      subst ev
      have eq := sep_ix st1.sep e' hq (adr_of q) (hqa a ha3)
      rcases hqp with ⟨e4, _⟩ | ⟨e4, l4⟩
      · omega
      · subst eq
        exact hj p (by rw [g2, e4])
    by_cases hj : j ∈ refs ts
    · obtain ⟨p, hp⟩ := refs_mem hj
      obtain ⟨w, hw⟩ := s.has hp
      have rp := s.rep hw hp
      obtain ⟨f, k, xs, e⟩ := rp
      have lt : j < (zl σ r1).length := by
        rw [s.es.len]
        exact s.es.rn _ (prs_mem hw hp) j rfl
      rw [List.getElem?_append_left lt] at e
      obtain ⟨e1, e2⟩ := zl_get e
      have evw : v = w := by
        rw [h1] at e1
        exact Option.some.inj (Option.some.inj e1)
      subst evw
      have el : lend r1 (.rf j) = .nd (lendF f) k xs := by
        unfold lend
        simp only [e2]
      have a0 := start_at (N := N) lv' hw (by rw [List.getElem?_map, hp]; rfl : (ts.map (lend r1))[p]? = some (lend r1 (.rf j)))
      rw [el] at a0
      by_cases q : owf f = true
      · have lent' : lendF f = .ln ∨ lendF f = .lk := by
          cases f <;> first | exact .inl rfl | exact .inr rfl | cases q
        obtain ⟨ys, hy⟩ := c.kp p v (lendF f) k xs a0 lent'
        have hb := back_in ts r1 rc p j _ hn hp (zl_get hy).2
        rw [e2] at hb
        have hb2 : gvv (some (some (.nd f k xs))) (some (.nd (lendF f) k ys)) = some (some (.nd f k ys)) := if_pos q
        rw [hb2] at hb
        rw [hb] at h2
        have et : t = .nd f k ys := (Option.some.inj (Option.some.inj h2)).symm
        exact .inr ⟨f, k, xs, ys, p, et, q, e, hp, hy⟩
      · -- shared already
        have hx : ∃ d, rc[p]? = some d := by
          have lp : p < rc.length := by
            have l1 : p < vs.length := by
              rcases Nat.lt_or_ge p vs.length with z | z
              · exact z
              · rw [List.getElem?_eq_none z] at hw
                cases hw
            rw [← c.len, c.ls]
            unfold L2.start
            rw [List.length_append, List.length_map]
            omega
          exact ⟨rc[p], by simp [lp]⟩
        obtain ⟨d, hd⟩ := hx
        have hb := back_in ts r1 rc p j d hn hp hd
        have hb2 : gvv (r1[j]?) d = r1[j]? := by
          rw [e2]
          cases d with
          | none => rfl
          | some d => cases d with
            | nd f' k' ys => exact if_neg q
            | sc _ => rfl
            | rf _ => rfl
        rw [hb2] at hb
        rw [hb] at h2
        refine .inl ⟨zl_of h1 h2, fun a f' k' xs' ev et q' => ?_⟩
        rw [e2] at h2
        have := Option.some.inj (Option.some.inj h2)
        rw [et] at this
        cases this
        exact absurd q' q
    · have hb := back_out ts r1 rc j hj
      rw [hb] at h2
      have hz := zl_of h1 h2
      refine .inl ⟨hz, fun a f k xs ev et q => ?_⟩
      subst et
      exact untouched (fun p hp => hj (mem_refs hp)) f k xs a hz q ev
  have sepc := c.stp.st.sep
  -- the step itself
  have S2 : Stp G B1 H1 (zl σ r1 ++ prs vs ts) B2 H2 (zl σ (back r1 ts rc) ++ prs ws us) := by
    have adrs : ∀ (j : Nat) (e : Ent) (a : Addr), (zl σ (back r1 ts rc))[j]? = some e → adr e = some a → ∃ u, (zl σ r1)[j]? = some u ∧ adr u = some a := fun j e a he ha => by
      obtain ⟨f, k, xs, rfl, q⟩ := adr_own ha
      rcases slot j _ _ he with ⟨z, _⟩ | ⟨f', k', xs', ys, p, z1, z2, z3, _, _⟩
      · exact ⟨_, z, adr_of q⟩
      · exact ⟨_, z3, adr_of z2⟩
    have notnew : ∀ (a : Addr), Own (zl σ r1 ++ prs vs ts) a → ¬ Own (zl (start N vs) (entry N.length (ts.map (lend r1)))) a → ¬ Own (zl σ2 rc ++ prs ws0 us0) a := fun a h1 h2 h3 => by
      rcases c.stp.nw a h3 with z | z
      · exact h2 z
      · obtain ⟨_, o, e⟩ := st1.own h1
        rw [e] at z
        cases z
    refine { st := ⟨c.stp.st.sub, fun e he => ?_, ?_, s.es.stp.st.floor.trans c.stp.ex⟩, ex := c.stp.ex, fr := fun a o n h => c.stp.fr a o (fun z => n (wr0 a z)) h, nw := fun a z => ?_, ww := fun a z => ?_, nb := fun a z => ?_ }
    · rcases List.mem_append.mp he with h | h
      · obtain ⟨v, t⟩ := e
        cases t with
        | none => cases v <;> exact trivial
        | some t =>
          obtain ⟨j, hj⟩ := List.mem_iff_getElem?.mp h
          cases v with
          | none =>
            -- an unset slot stays unset
            obtain ⟨h1, h2⟩ : σ[j]? = some none ∧ (back r1 ts rc)[j]? = some (some t) := by
              unfold zl at hj
              rw [List.getElem?_zip_eq_some] at hj
              exact hj
            by_cases hjr : j ∈ refs ts
            · obtain ⟨p, hp⟩ := refs_mem hjr
              obtain ⟨w, hw⟩ := s.has hp
              obtain ⟨f, k, xs, e⟩ := s.rep hw hp
              have lt : j < (zl σ r1).length := by
                rw [s.es.len]
                exact s.es.rn _ (prs_mem hw hp) j rfl
              rw [List.getElem?_append_left lt] at e
              rw [(zl_get e).1] at h1
              cases h1
            · rw [back_out ts r1 rc j hjr] at h2
              exact (s.init.st.rep _ (List.mem_of_getElem? (zl_of h1 h2))).elim
          | some v =>
            rcases slot j v t hj with ⟨z, z2⟩ | ⟨f, k, xs, ys, p, z1, z2, z3, z4, z5⟩
            · have r0 := s.init.st.rep _ (List.mem_of_getElem? z)
              refine Rep.stay c.stp.ex r0 (fun a f k xs e1 e2 e3 => ?_) fun i ei => absurd (s.es.nr _ (List.mem_of_getElem? z) i (by rw [ei])) (Nat.not_lt_zero i)
              have no := z2 a f k xs e1 e2 e3
              have ow : Own (zl σ r1) a := ⟨_, List.mem_of_getElem? z, by rw [e1, e2]; exact adr_of e3⟩
              refine ⟨fun o h => c.stp.fr a o (fun y => no y.own) h, ?_⟩
              cases y : B2 a with
              | none => rfl
              | some o =>
                rcases c.stp.nb a (by rw [y]; simp) with y2 | y2 | y2
                · exact absurd (s.init.st.own ow).1 y2
                · exact absurd y2.own no
                · obtain ⟨_, o2, e4⟩ := s.init.st.own ow
                  rw [e4] at y2
                  cases y2
            · subst z1
              have r5 := c.init.st.rep _ (List.mem_of_getElem? z5)
              have r5' : (if owf (lendF f) then ∃ a vs, v = .ref a ∧ B2 a = none ∧ OwC G H2 a vs k ∧ SRepL G B2 vs ys else SRep G B2 v (.nd (lendF f) k ys)) := r5
              show (if owf f then ∃ a vs, v = .ref a ∧ B2 a = none ∧ OwC G H2 a vs k ∧ SRepL G B2 vs ys else SRep G B2 v (.nd f k ys))
              cases f <;> first | exact r5' | cases z2
      · exact rep_idx (fun i y ei _ => absurd (rnw e h i ei) (Nat.not_lt_zero i)) (hrep e h)
    · refine List.pairwise_append.mpr ⟨ix_sep fun i j e e' a hi hj ha hb => ?_, hsep, fun e he e' he' a ha ha' => ?_⟩
      · obtain ⟨u, hu, hua⟩ := adrs i e a hi ha
        obtain ⟨u', hu', hua'⟩ := adrs j e' a hj hb
        exact sep_ix s.init.st.sep hu hu' hua hua'
      · obtain ⟨j, hj⟩ := List.mem_iff_getElem?.mp he
        obtain ⟨f, k, xs, rfl, q⟩ := adr_own ha
        rcases slot j _ _ hj with ⟨z, z2⟩ | ⟨f', k', xs', ys, p, z1, z2, z3, z4, z5⟩
        · have no := z2 a f k xs rfl rfl q
          exact notnew a (own_app.mpr (.inl ⟨_, List.mem_of_getElem? z, adr_of q⟩)) no (hown a ⟨e', he', ha'⟩)
        · have q5 : owf (lendF f') = true := by cases f' <;> first | rfl | cases z2
          exact hcross p j _ e' a z4 z5 he' (adr_of q5) ha'
    · rcases own_app.mp z with ⟨e, he, ha⟩ | z
      · obtain ⟨j, hj⟩ := List.mem_iff_getElem?.mp he
        obtain ⟨u, hu, hua⟩ := adrs j e a hj ha
        exact .inl (own_app.mpr (.inl ⟨u, List.mem_of_getElem? hu, hua⟩))
      · rcases c.stp.nw a (hown a z) with y | y
        · exact .inl (ow0 a y)
        · exact .inr y
    · rcases wr_app.mp z with ⟨f, k, xs, he, hf⟩ | z
      · obtain ⟨j, hj⟩ := List.mem_iff_getElem?.mp he
        rcases slot j _ _ hj with ⟨z, _⟩ | ⟨f', k', xs', ys, p, z1, z2, z3, z4, z5⟩
        · exact .inl (wr_app.mpr (.inl ⟨f, k, xs, List.mem_of_getElem? z, hf⟩))
        · cases z1
          exact .inl (wr_app.mpr (.inl ⟨f, k, xs', List.mem_of_getElem? z3, hf⟩))
      · exact hwr a z
    · rcases c.stp.nb a z with y | y | y
      · exact .inl y
      · exact .inr (.inl (wr0 a y))
      · exact .inr (.inr y)
  have ke2 : KeptE (zl σ r1) (zl σ (back r1 ts rc)) := fun i v f k xs e => by
    obtain ⟨h1, h2⟩ := zl_get e
    by_cases hj : i ∈ refs ts
    · obtain ⟨p, hp⟩ := refs_mem hj
      obtain ⟨w, hw⟩ := s.has hp
      have lp : p < rc.length := by
        have l1 : p < vs.length := by
          rcases Nat.lt_or_ge p vs.length with z | z
          · exact z
          · rw [List.getElem?_eq_none z] at hw
            cases hw
        rw [← c.len, c.ls]
        unfold L2.start
        rw [List.length_append, List.length_map]
        omega
      have hb := back_in ts r1 rc p i rc[p] hn hp (by simp [lp])
      rw [h2] at hb
      have hlt : i < (back r1 ts rc).length := by
        rw [len2]
        rcases Nat.lt_or_ge i r1.length with z | z
        · exact z
        · rw [List.getElem?_eq_none z] at h2
          cases h2
      -- by the slot's own account
      have hz : ∃ t, (zl σ (back r1 ts rc))[i]? = some (some v, some t) := by
        cases hg : gvv (some (some (.nd f k xs))) rc[p] with
        | none =>
          rw [hg] at hb
          rw [List.getElem?_eq_none_iff] at hb
          omega
        | some o =>
          cases o with
          | none =>
            exfalso
            unfold gvv at hg
            cases hr : rc[p] with
            | none =>
              rw [hr] at hg
              cases hg
            | some d =>
              rw [hr] at hg
              cases d with
              | nd f' k' ys =>
                by_cases q : owf f = true
                · simp [q] at hg
                · simp [q] at hg
              | sc _ => cases hg
              | rf _ => cases hg
          | some t => exact ⟨t, zl_of h1 (by rw [hb, hg])⟩
      obtain ⟨t, ht⟩ := hz
      rcases slot i v t ht with ⟨z, _⟩ | ⟨f', k', xs', ys, p', z1, z2, z3, z4, z5⟩
      · rw [e] at z
        cases z
        exact ⟨f, xs, ht, fun _ => rfl⟩
      · rw [e] at z3
        cases z3
        subst z1
        exact ⟨f, ys, ht, fun _ => rfl⟩
    · exact ⟨f, xs, zl_of h1 (by rw [back_out ts r1 rc i hj]; exact h2), fun _ => rfl⟩
  have nr2 : Refs 0 (zl σ (back r1 ts rc)) := fun e he i ei => by
    obtain ⟨j, hj⟩ := List.mem_iff_getElem?.mp he
    obtain ⟨v, t⟩ := e
    cases ei
    cases v with
    | none => exact (S2.st.rep _ (List.mem_append_left _ he)).elim
    | some v =>
      rcases slot j v _ hj with ⟨z, _⟩ | ⟨f', k', xs', ys, p', z1, _⟩
      · exact s.es.nr _ (List.mem_of_getElem? z) i rfl
      · cases z1
  refine ⟨by rw [len2]; exact s.len, lws, ⟨s.es.stp.trans S2, s.es.ke.trans ke2, ?_, nr2, fun e he i ei => absurd (rnw e he i ei) (Nat.not_lt_zero i)⟩, s.ps⟩
  rw [zl_len (by rw [len2]; exact s.len), ← zlen]
  exact s.es.len
theorem wr_in (s : ES G B H σ r B1 H1 r1 vs ts) (a : Addr) (h : Wr (zl (start N vs) (entry N.length (ts.map (lend r1)))) a) : Wr (zl σ r1 ++ prs vs ts) a := by
  obtain ⟨f, k, xs, he, hf⟩ := h
  rcases start_mem (by rw [List.length_map, s.lv]) he with q | ⟨p, v, t, e, h1, h2⟩
  · cases q
  · rw [List.getElem?_map] at h2
    cases h3 : ts[p]? with
    | none =>
      rw [h3] at h2
      cases h2
    | some t0 =>
      rw [h3] at h2
      have e2 : t = lend r1 t0 := (Option.some.inj h2).symm
      subst e2
      obtain ⟨_, _, _, _, _, _, hw, _⟩ := lend_rep s h1 h3
      exact hw a ⟨f, k, xs, List.mem_singleton.mpr e, hf⟩
theorem call_out {rc : Env} {σ2 : L2.St} {ws : List V} {us : List T} (s : ES G B H σ r B1 H1 r1 vs ts) (hn : (refs ts).Nodup) (hle : vs.length ≤ N.length) (c : SS G.toGam.bot B1 H1 (start N vs) (entry N.length (ts.map (lend r1))) B2 H2 σ2 rc ws us) :
    ES G B H σ r B2 H2 (back r1 ts rc) ws us := by
  have sepc := List.pairwise_append.mp c.stp.st.sep
  refine call_outs s hn hle c c.lv c.rn (fun e he => ?_) sepc.2.1 (fun p j e e' a _ h2 h3 ha => sepc.2.2 e (List.mem_of_getElem? h2) e' h3 a ha) (fun a h => own_app.mpr (.inr h)) fun a h => ?_
  · exact rep_idx (fun i y ei _ => absurd (c.rn e he i ei) (Nat.not_lt_zero i)) (c.stp.st.rep e (List.mem_append_right _ he))
  · rcases c.stp.ww a (wr_app.mpr (.inr h)) with y | y
    · exact .inl (wr_in s a y)
    · exact .inr y
/-- behind __init__: the new object, owned -/
theorem call_made {rc : Env} {σ2 : L2.St} {ws : List V} {us ts' : List T} {x : Addr} {cid : Nat} {vs' : List V} (s : ES G B H σ r B1 H1 r1 (V.ref x :: vs') (T.nd .ow (.ins cid) [] :: ts')) (hn : (refs ts').Nodup) (hle : (V.ref x :: vs').length ≤ N.length)
    (c : SS G.toGam.bot B1 H1 (start N (V.ref x :: vs')) (entry N.length ((T.nd .ow (.ins cid) [] :: ts').map (lend r1))) B2 H2 σ2 rc ws us) :
    ∃ ys rr, rc = some (.nd .ln (.ins cid) ys) :: rr ∧ ES G B H σ r B2 H2 (back r1 ts' rr) [V.ref x] [.nd .ow (.ins cid) ys] := by
  have lv' : (V.ref x :: vs').length = ((T.nd .ow (.ins cid) [] :: ts').map (lend r1)).length := by rw [List.length_map, s.lv]
  have a0 := start_at (N := N) (p := 0) lv' rfl (rfl : ((T.nd .ow (.ins cid) [] :: ts').map (lend r1))[0]? = some (.nd .ln (.ins cid) []))
  obtain ⟨ys, hy⟩ := c.kp 0 _ _ _ _ a0 (.inl rfl)
  have hr := (zl_get hy).2
  cases rc with
  | nil => cases hr
  | cons c0 rr =>
    have e0 : c0 = some (.nd .ln (.ins cid) ys) := by simpa using hr
    subst e0
    refine ⟨ys, rr, rfl, ?_⟩
    have r5 := c.init.st.rep _ (List.mem_of_getElem? hy)
    have key := call_outs (ws := [V.ref x]) (us := [.nd .ow (.ins cid) ys]) s hn hle c rfl (fun e he i ei => ?_) (fun e he => ?_) (List.pairwise_singleton _ _) (fun p j e e' a h1 h2 h3 ha hb => ?_) (fun a h => ?_) (fun a h => ?_)
    · exact key
    · rw [List.mem_singleton.mp he] at ei
      cases ei
    · rw [List.mem_singleton.mp he]
      exact r5
    · rw [List.mem_singleton.mp h3] at hb
      have hx : x = a := Option.some.inj ((adr_of rfl).symm.trans hb)
      subst hx
      have z := sep_ix c.init.st.sep h2 hy ha (adr_of rfl)
      subst z
      cases h1
    · obtain ⟨e, he, ha⟩ := h
      rw [List.mem_singleton.mp he] at ha
      have hx : x = a := Option.some.inj ((adr_of rfl).symm.trans ha)
      subst hx
      exact own_app.mpr (.inl ⟨_, List.mem_of_getElem? hy, adr_of rfl⟩)
    · obtain ⟨f, k, xs, he, hf⟩ := h
      have z := List.mem_singleton.mp he
      cases z
      exact .inl (wr_app.mpr (.inr ⟨.ow, .ins cid, [], List.mem_cons_self .., rfl⟩))
end
end PD
end PartPD5

section PartPD6
set_option Elab.async false
set_option linter.all false
set_option maxRecDepth 100000
set_option maxHeartbeats 4000000
namespace PD
open PySem PySem.Spec PyProof.Rows L2

/-! ### arguments -/
def aN : XA := fun r => .ok (r, [])
def aC (f : XE) (g : XA) : XA := fun r => match f r with
  | .ok (r1, t) => (match g r1 with
    | .ok (r2, ts) => .ok (r2, t :: ts)
    | .err r c fs => .err r c fs
    | .stuck => .stuck)
  | .err r c fs => .err r c fs
  | .stuck => .stuck
/-- the defaults behind the arguments -/
def aD (f : XA) (ds : List T) : XA := fun r => match f r with
  | .ok (r1, ts) => .ok (r1, ts ++ ds)
  | .err r c fs => .err r c fs
  | .stuck => .stuck
section
variable {G : Gm} {W : WX} {X : Cx} {B H B1 H1 : Hp} {σ : L2.St} {r r1 : Env} {vs : List V} {ts : List T}
theorem ES.puts : ∀ {ws : List V} {us : List T} {vs : List V} {ts : List T}, ES G B H σ r B1 H1 r1 vs ts → SRepL G B1 ws us → ES G B H σ r B1 H1 r1 (vs ++ ws) (ts ++ us)
  | [], [], vs, ts, s, _ => by
    rw [List.append_nil, List.append_nil]
    exact s
  | w :: ws, u :: us, vs, ts, s, h => by
    have q : ES G B1 H1 σ r1 B1 H1 r1 [w] [u] := s.init.es.put h.1
    have z := ES.puts (s.app q) h.2
    rw [List.append_assoc, List.append_assoc] at z
    exact z
  | [], _ :: _, _, _, _, h => h.elim
  | _ :: _, [], _, _, _, h => h.elim
theorem da_nil : PA X [] (dA G W aN) := PA.imp pa_nil fun σ H Q h => by
  obtain ⟨B, r, i, h⟩ := h
  exact h [] B H i.es
theorem aC_w {f : XE} {g : XA} (σ : L2.St) (H : Hp) (Q : List V → Hp → Prop) (h : dA G W (aC f g) σ H Q) : dE G W f σ H (fun x H1 => dA G W g σ H1 fun xs H2 => Q (x :: xs) H2) := by
  obtain ⟨B, r, i, h⟩ := h
  refine ⟨B, r, i, ?_⟩
  unfold aC at h
  cases e : f r with
  | ok p =>
    obtain ⟨r1, t1⟩ := p
    rw [e] at h
    intro v1 B1 H1 s1
    refine ⟨B1, r1, s1.init, ?_⟩
    have h2 : dAp G W σ Q B H r (match g r1 with
      | .ok (r2, ts) => .ok (r2, t1 :: ts)
      | .err r c fs => .err r c fs
      | .stuck => .stuck) := h
    cases e2 : g r1 with
    | ok p2 =>
      obtain ⟨r2, t2⟩ := p2
      rw [e2] at h2
      exact fun vs B2 H2 s2 => h2 (v1 :: vs) B2 H2 (s1.app s2)
    | err r2 c fs =>
      rw [e2] at h2
      exact wErr.later s1 h2
    | stuck =>
      rw [e2] at h2
      exact h2
  | err r2 c fs =>
    rw [e] at h
    exact h
  | stuck =>
    rw [e] at h
    exact h
theorem da_cons {e : Expr} {es : List Expr} {f : XE} {g : XA} (h1 : PE X e (dE G W f)) (h2 : PA X es (dA G W g)) (hs : starEach (e :: es) X.env = (false, eval e X.env) :: starEach es X.env := by rfl) : PA X (e :: es) (dA G W (aC f g)) :=
  PA.imp (pa_cons h1 h2 hs) fun σ H Q h => aC_w σ H Q h
theorem aD_w {f : XA} {ds : List T} {dvs : List V} (hd : ∀ B, SRepL G B dvs ds) {k : Env → List T → Res (Env × T)} {q : L2.St → List V → Hp → VK → Prop}
    (o : ∀ (σ : L2.St) (Q : VK) (B H : Hp) (r : Env) (B1 H1 : Hp) (r1 : Env) (vs : List V) (ts : List T), ES G B H σ r B1 H1 r1 vs ts → dEp G W σ Q B H r (k r1 ts) → q σ vs H1 Q) (σ : L2.St) (H : Hp) (Q : VK) (h : dE G W (onA (aD f ds) k) σ H Q) : dA G W f σ H (fun xs H1 => q σ (xs ++ dvs) H1 Q) := by
  obtain ⟨B, r, i, h⟩ := h
  refine ⟨B, r, i, ?_⟩
  unfold onA aD at h
  cases e : f r with
  | ok p =>
    obtain ⟨r1, ts⟩ := p
    rw [e] at h
    exact fun vs B1 H1 s => o σ Q B H r B1 H1 r1 _ _ (s.puts (hd B1)) h
  | err r2 c fs =>
    rw [e] at h
    exact h
  | stuck =>
    rw [e] at h
    exact h
end

/-! ### defs -/
def runF (n : Nat) (b : XS) : FT := fun ts => match b (entry n ts) with
  | .ok (.nx r) => .ok (r, .non)
  | .ok (.rt r t) => .ok (r, t)
  | .ok (.bk _) => .stuck
  | .ok (.ct _) => .stuck
  | .err r c fs => .err r c fs
  | .stuck => .stuck
def fnP (G : Gm) (N : List Str) (B H : Hp) (vs : List V) (ts : List T) (Q : VK) (E : XK) : Res (Env × T) → Prop
  | .ok (r', t) => ∀ v σ' B' H', SS G B H (start N vs) (entry N.length ts) B' H' σ' r' [v] [t] → Q v H'
  | .err r' c fs => ∀ d B' H' σ', SS G B H (start N vs) (entry N.length ts) B' H' σ' r' [] [] → ExR G B' c fs d → E (.ref (G.cls c)) d H'
  | .stuck => False
/-- the promise: what F says -/
def spT (G : Gm) (N : List Str) (np : Nat) (F : FT) : Sp := fun vs H Q E => ∃ B ts, vs.length = np ∧ Init G B H (start N vs) (entry N.length ts) ∧ fnP G N B H vs ts Q E (F ts)
theorem fnok {P : Program} {w : World} {K : PySem.W.Frag} {mg : Str → Option Value} {base : Heap} {x qual : Str} {params : Arguments} {body : List Stmt} {scope : Scope} {dvs : List V} {kws : List (Str × V)} {f : Addr} {fd : FuncData} {N ps : List Str} {k : Nat} {G : Gm} {b : XS}
    (F : FunD K x qual params body scope dvs kws f fd) (S : FnScope N ps scope)
    (der : ∀ (cdv : Value) (A : Around) (outer : List PySem.Env) (s : Shared) (H : Hp) (E : XK), Room k (A.deeper (envOfC qual scope s.heap.objs.size f cdv)) →
      PSs (cxOf (L2N.CX P w) P w K mg base N qual scope f cdv A outer s H E) body (dS G (fun c d _ H' => E c d H') b)) : FnOk P w K mg base (L2N.CX P w) (k + 1) f fd ps (spT G N ps.length (runF N.length b)) :=
  F.ok S (fun vs H Q E ⟨_, _, h, _⟩ => h) fun cdv A outer s H vs Q E hr h => by
    refine ⟨_, der cdv A outer s H E hr, ?_⟩
    obtain ⟨B, ts, _, ini, h⟩ := h
    refine ⟨B, entry N.length ts, ini, ?_⟩
    unfold runF at h
    cases e : b (entry N.length ts) with
    | ok o =>
      rw [e] at h
      cases o with
      | nx r1 =>
        intro σ' B' H' s
        have q : ES G B' H' σ' r1 B' H' r1 [.non] [.non] := s.init.es.put rfl
        exact h .non σ' B' H' (s.app (q.ss rfl))
      | rt r1 t => exact fun v σ' B' H' s => h v σ' B' H' s
      | bk r1 => exact h.elim
      | ct r1 => exact h.elim
    | err r1 c fs =>
      rw [e] at h
      exact fun d B' H' σ' s x => h d B' H' σ' s x
    | stuck =>
      rw [e] at h
      exact h.elim
/-- what callers know of a def -/
structure FnG (P : Program) (w : World) (K : PySem.W.Frag) (mg : Str → Option Value) (base : Heap) (G : Gam) (k n : Nat) (f : Addr) (F : FT) (ds : List T) : Prop where
  ex : ∃ (fd : FuncData) (ps N : List Str) (dV : List Value) (dvs : List V), FnOk P w K mg base (L2N.CX P w) k f fd ps (spT G.bot N ps.length F) ∧ Binds K fd ps dV ∧ Vals dvs dV ∧ (∀ B, SRepL G B dvs ds) ∧ ps.length = n ∧ ps.length ≤ N.length ∧ PySem.W.keepIn K (.ref f) = true
def callK (n : Nat) (F : FT) (r1 : Env) (ts : List T) : Res (Env × T) := if ts.length = n ∧ nodupB (refs ts) then (match F (ts.map (lend r1)) with
    | .ok (rc, t) => .ok (back r1 ts rc, t)
    | .err rc c fs => .err (back r1 ts rc) c fs
    | .stuck => .stuck) else .stuck
theorem call_w {G : Gm} {W : WX} {F : FT} {N : List Str} {np : Nat} (hN : np ≤ N.length) (σ : L2.St) (Q : VK) (B H : Hp) (r : Env) (B1 H1 : Hp) (r1 : Env) (vs : List V) (ts : List T) (s : ES G B H σ r B1 H1 r1 vs ts)
    (h : dEp G W σ Q B H r (callK np F r1 ts)) : spT G.toGam.bot N np F vs H1 Q (WE W σ) := by
  unfold callK at h
  by_cases c : ts.length = np ∧ nodupB (refs ts) = true
  · rw [if_pos c] at h
    have hn := of_decide_eq_true c.2
    have hl : vs.length = np := s.lv.trans c.1
    have hle : vs.length ≤ N.length := by rw [hl]; exact hN
    refine ⟨B1, ts.map (lend r1), hl, call_in s hn hle, ?_⟩
    cases e : F (ts.map (lend r1)) with
    | ok p =>
      obtain ⟨rc, t⟩ := p
      rw [e] at h
      exact fun v σ' B' H' c => h v B' H' (call_out s hn hle c)
    | err rc c fs =>
      rw [e] at h
      exact fun d B' H' σ' c x => h d B' H' (call_out s hn hle c) x
    | stuck =>
      rw [e] at h
      exact h
  · rw [if_neg c] at h
    exact h.elim
section
variable {G : Gm} {W : WX} {X : Cx} {x : Str} {p pos : Pos} {e : Expr} {es : List Expr} {fa : XA} {k n : Nat} {f : Addr} {F : FT} {ds : List T}
theorem de_call (hF : FnG X.prog X.w X.K X.mg X.base G k n f F ds) (hr : Room k X.A) (hm : X.mg x = some (.ref f)) (tk : L2N.Takes X W) (ha : PA X (e :: es) (dA G W fa)) (hg : Gl X x := by rfl) (hdb : (x == ("__debug__" : Str)) = false := by decide)
    (he : starEach (e :: es) X.env = (false, eval e X.env) :: starEach es X.env := by rfl) (hpl : (backTo pos (starEach es X.env)).any (·.1) = false := by rfl) : PE X (.Call (.Name x p) (e :: es) [] pos) (dE G W (onA (aD fa ds) (callK n F))) := by
  obtain ⟨fd, ps, N, dV, dvs, h1, h2, h3, h4, h5, h6, h7⟩ := hF.ex
  refine PE.imp (pe_callSD (E := WE W) h1 hr hg hm h7 h2 h3 (fun σ => L2N.passAt tk σ) ha hdb he hpl) fun σ H Q h => ?_
  refine aD_w (q := fun σ vs H Q => spT G.toGam.bot N ps.length F vs H Q (WE W σ)) h4 (fun σ Q B H r B1 H1 r1 vs ts s h => ?_) σ H Q h
  rw [h5]
  exact call_w (by rw [← h5]; exact h6) σ Q B H r B1 H1 r1 vs ts s h
/-- f() -/
theorem de_call0 (hF : FnG X.prog X.w X.K X.mg X.base G k n f F ds) (hr : Room k X.A) (hm : X.mg x = some (.ref f)) (tk : L2N.Takes X W) (hg : Gl X x := by rfl) (hdb : (x == ("__debug__" : Str)) = false := by decide) : PE X (.Call (.Name x p) [] [] pos) (dE G W (onA (aD aN ds) (callK n F))) := by
  obtain ⟨fd, ps, N, dV, dvs, h1, h2, h3, h4, h5, h6, h7⟩ := hF.ex
  refine ⟨fun pins s σ H Q I h => ?_⟩
  refine wpAny_Call_Name_kw (ld_glob I hg hm ?_ hdb)
  refine PySem.W.callWith_K0 I.kIn h7 (run_fnSD (us := []) (vs := []) (E := WE W) h1 hr h2 h3 (L2N.passAt tk σ) I .nil ?_)
  obtain ⟨B, r, i, h⟩ := h
  have z : dEp G W σ Q B H r (callK n F r ds) := h
  rw [h5]
  exact call_w (by rw [← h5]; exact h6) σ Q B H r B H r _ _ (i.es.puts (h4 B)) z
end

/-! ### methods -/
structure MOk (X : Cx) (G : Gm) (m : Str) (c n : Nat) (F : FT) (ds : List T) : Prop where
  ex : ∃ f k, FnG X.prog X.w X.K X.mg X.base G k n f F ds ∧ Room k X.A ∧ Cls X.K (G.cls c) ∧ Meth X.K (G.cls c) m f ∧ m ∉ G.flds c
abbrev MTab := List (Nat × Nat × FT × List T)
def eMeth (tb : MTab) (fo : XE) (fa : XA) : XE := fun r => match fo r with
  | .ok (r1, t) => (match pk r1 t with
    | .nd _ (.ins c) _ => (match tb.lookup c with
      | some (n, F, ds) => (match fa r1 with
        | .ok (r2, ts) => callK n F r2 (t :: (ts ++ ds))
        | .err r c fs => .err r c fs
        | .stuck => .stuck)
      | none => .stuck)
    | _ => .stuck)
  | .err r c fs => .err r c fs
  | .stuck => .stuck
theorem lookup_zip_none {m : Str} : ∀ {fs : List Str} {vs : List V}, m ∉ fs → (fs.zip vs).lookup m = none
  | [], _, _ => rfl
  | f :: fs, [], _ => rfl
  | f :: fs, v :: vs, h => by
    have ne : (m == f) = false := beq_eq_false_iff_ne.mpr fun e => h (e ▸ List.mem_cons_self ..)
    show (List.lookup m ((f, v) :: fs.zip vs)) = none
    rw [List.lookup_cons, ne]
    exact lookup_zip_none fun z => h (List.mem_cons_of_mem _ z)
theorem pk_kind {r r' : Env} {σ : L2.St} {G : Gm} {B H B1 H1 B2 H2 : Hp} {r0 : Env} {v : V} {ws : List V} {us : List T} {t : T} {f : Fl} {k : Kd} {xs : List T} (s : ES G B H σ r0 B1 H1 r [v] [t]) (q : ES G B1 H1 σ r B2 H2 r' ws us) (h : pk r t = .nd f k xs) : ∃ f' ys, pk r' t = .nd f' k ys := by
  cases t with
  | sc u => cases h
  | nd _ _ _ => exact ⟨_, _, h⟩
  | rf j =>
    obtain ⟨f1, k1, xs1, h3⟩ := s.rep (i := 0) (v := v) (t := .rf j) rfl rfl
    have lt : j < (zl σ r0).length := s.es.rn _ (prs_mem (i := 0) (vs := [v]) (ts := [T.rf j]) rfl rfl) j rfl
    rw [List.getElem?_append_left (by rw [s.es.len]; exact lt)] at h3
    have h4 := (zl_get h3).2
    unfold pk at h
    simp only [h4] at h
    cases h
    obtain ⟨f', ys, e', _⟩ := q.es.ke j v f k xs h3
    have h5 := (zl_get e').2
    refine ⟨f', ys, ?_⟩
    unfold pk
    simp only [h5]
theorem de_methG {G : Gm} {W : WX} {X : Cx} {o : Expr} {m : Str} {apos pos : Pos} {args : List Expr} {pl : Sem Bool} {tb : MTab} {fo : XE} {fa : XA} (hM : ∀ c n F ds, tb.lookup c = some (n, F, ds) → MOk X G m c n F ds) (tk : L2N.Takes X W) (ho : PE X o (dE G W fo)) (ha : PA X args (dA G W fa))
    (run : ∀ (pins : List (Addr × Obj)) (s : Shared) (σ : L2.St) (H : Hp) (Q : VK) (a f : Addr) (q : List V → Hp → Prop), Inv X pins σ H s → PySem.W.keepIn X.K (.ref f) = true → dA G W fa σ H q →
      (∀ us s2 vs H2, Inv X pins σ H2 s2 → Vals vs us → q vs H2 → wpAny (model X.prog X.w) X.A (call (.ref f) (.ref a :: us)) (EP X pins σ Q) X.xe s2) → wpAny (model X.prog X.w) X.A (callWith pos (.ref f) [.ref a] (backTo pos (starEach args X.env)) (backToKw pos (keywordEach [] X.env))) (EP X pins σ Q) X.xe s)
    (ht : eval (.Call (.Attribute o m apos) args [] pos) X.env = (do
      let ov ← eval o X.env
      standAt apos.atName
      let (f, first) ← holding [ov] (getMethod ov m pl)
      callWith pos f first (backTo pos (starEach args X.env)) (backToKw pos (keywordEach [] X.env)))) :
    PE X (.Call (.Attribute o m apos) args [] pos) (dE G W (eMeth tb fo fa)) := by
  refine ⟨fun pins s σ H Q I h => ?_⟩
  obtain ⟨B, r, ini, h⟩ := h
  unfold eMeth at h
  cases e : fo r with
  | stuck =>
    rw [e] at h
    exact h.elim
  | err r1 c fs =>
    rw [e] at h
    refine PySem.W.methodCall_KW (pl := pl) (thn (ho.run pins s σ H (fun _ _ => False) I ⟨B, r, ini, ?_⟩) fun u s1 ⟨_, _, _, _, z⟩ => z.elim) ht
    rw [e]
    exact h
  | ok p =>
    obtain ⟨r1, t⟩ := p
    rw [e] at h
    have h1 : dEp G W σ Q B H r (match pk r1 t with
      | .nd _ (.ins c) _ => (match tb.lookup c with
        | some (n, F, ds) => (match fa r1 with
          | .ok (r2, ts) => callK n F r2 (t :: (ts ++ ds))
          | .err r c fs => .err r c fs
          | .stuck => .stuck)
        | none => .stuck)
      | _ => .stuck) := h
    split at h1
    · rename_i f0 c xs hpk
      split at h1
      · rename_i n F ds htb
        refine PySem.W.methodCall_KW (pl := pl) (thn (ho.run pins s σ H (fun x H1 => ∃ B1, ES G B H σ r B1 H1 r1 [x] [t]) I ⟨B, r, ini, ?_⟩) fun u s1 ⟨x, H1, I1, rx, B1, s1'⟩ => ?_) ht
        · rw [e]
          exact fun v B1 H1 s => ⟨B1, s⟩
        · obtain ⟨a, ws, rfl, ⟨dx, ea, _⟩, _⟩ := s1'.rd (i := 0) rfl rfl hpk
          obtain rfl : u = Value.ref a := rx
          obtain ⟨f, k, hF, hr, hc, hm, hno⟩ := (hM c n F ds htb).ex
          obtain ⟨fd, ps, N, dV, dvs, g1, g2, g3, g4, g5, g6, g7⟩ := hF.ex
          refine getmeth_ok I1 ea hc hm (lookup_zip_none hno) ?_
          refine run pins s1 σ H1 Q a f (fun vs H2 => spT G.toGam.bot N ps.length F (.ref a :: (vs ++ dvs)) H2 Q (WE W σ)) I1 g7 ?_ fun us s2 vs H2 I2 rv q2 => ?_
          · refine ⟨B1, r1, s1'.init, ?_⟩
            cases e2 : fa r1 with
            | ok p2 =>
              obtain ⟨r2, ts⟩ := p2
              rw [e2] at h1
              intro vs B2 H2 s2
              have h3 : dEp G W σ Q B H r (callK n F r2 (t :: (ts ++ ds))) := h1
              rw [g5]
              exact call_w (by rw [← g5]; exact g6) σ Q B H r B2 H2 r2 _ _ ((s1'.app s2).puts (g4 B2)) h3
            | err r2 c fs =>
              rw [e2] at h1
              exact wErr.later s1' h1
            | stuck =>
              rw [e2] at h1
              exact h1
          · exact run_fnSD (us := .ref a :: us) (vs := .ref a :: vs) (E := WE W) g1 hr g2 g3 (L2N.passAt tk σ) I2 (.cons rfl rv) q2
      · exact h1.elim
    · exact h1.elim
section
variable {G : Gm} {W : WX} {X : Cx} {o e : Expr} {m : Str} {apos pos : Pos} {es : List Expr} {pl : Sem Bool} {tb : MTab} {fo : XE} {fa : XA}
theorem de_meth (hM : ∀ c n F ds, tb.lookup c = some (n, F, ds) → MOk X G m c n F ds) (tk : L2N.Takes X W) (ho : PE X o (dE G W fo)) (ha : PA X (e :: es) (dA G W fa))
    (hst : starEach (e :: es) X.env = (false, eval e X.env) :: starEach es X.env := by rfl) (hpl : (backTo pos (starEach es X.env)).any (·.1) = false := by rfl)
    (ht : eval (.Call (.Attribute o m apos) (e :: es) [] pos) X.env = (do
      let ov ← eval o X.env
      standAt apos.atName
      let (f, first) ← holding [ov] (getMethod ov m pl)
      callWith pos f first (backTo pos (starEach (e :: es) X.env)) (backToKw pos (keywordEach [] X.env))) := by rfl) : PE X (.Call (.Attribute o m apos) (e :: es) [] pos) (dE G W (eMeth tb fo fa)) :=
  de_methG hM tk ho ha (fun pins s σ H Q a f q I hk hq hrun => PySem.W.callWith_K (first := [.ref a]) (h₀ := X.base) I.ok.mod.kin hk (thn (ha.run pos pins s σ H _ I hq) fun us s2 ⟨vs, H2, I2, rv, q2⟩ => ⟨I2.kIn, hrun us s2 vs H2 I2 rv q2⟩) hst hpl) ht
theorem de_meth0 (hM : ∀ c n F ds, tb.lookup c = some (n, F, ds) → MOk X G m c n F ds) (tk : L2N.Takes X W) (ho : PE X o (dE G W fo))
    (ht : eval (.Call (.Attribute o m apos) [] [] pos) X.env = (do
      let ov ← eval o X.env
      standAt apos.atName
      let (f, first) ← holding [ov] (getMethod ov m pl)
      callWith pos f first (backTo pos (starEach [] X.env)) (backToKw pos (keywordEach [] X.env))) := by rfl) : PE X (.Call (.Attribute o m apos) [] [] pos) (dE G W (eMeth tb fo aN)) :=
  de_methG hM tk ho da_nil (fun pins s σ H Q a f q I hk hq hrun => PySem.W.callWith_K0 (first := [.ref a]) I.kIn hk (by
    obtain ⟨B, r, ini, h⟩ := hq
    exact hrun [] s [] H I .nil (h [] B H ini.es))) ht
end

def fix : List Str → Str → Option Nat
  | [], _ => none
  | f :: fs, m => if m = f then some 0 else (fix fs m).map (· + 1)
abbrev ATab := List (Nat × Nat)
/-- o.f: by class, the place of f among the fields -/
def fldK (tb : ATab) (r : Env) (t : T) : Res (Env × T) := match pk r t with
  | .nd _ (.ins c) xs => (match tb.lookup c with
    | some i => (match xs[i]? with
      | some u => .ok (r, u)
      | none => .stuck)
    | none => .stuck)
  | _ => .stuck
def eFld (tb : ATab) (fo : XE) : XE := un fo (fldK tb)
structure AOk (K : PySem.W.Frag) (G : Gm) (m : Str) (c i : Nat) : Prop where
  cl : Cls K (G.cls c)
  na : NoAttr K (G.cls c) m
  ix : fix (G.flds c) m = some i
theorem fix_zip {m : Str} {v : V} : ∀ {fs : List Str} {vs : List V} {i : Nat}, fix fs m = some i → vs[i]? = some v → (fs.zip vs).lookup m = some v
  | [], _, _, h, _ => by cases h
  | f :: fs, [], i, _, h => by simp at h
  | f :: fs, w :: vs, i, h, hv => by
    unfold fix at h
    by_cases e : m = f
    · rw [if_pos e] at h
      cases h
      simp at hv
      subst e hv
      show List.lookup m ((m, w) :: fs.zip vs) = some w
      rw [List.lookup_cons, beq_self_eq_true]
    · rw [if_neg e] at h
      cases e2 : fix fs m with
      | none =>
        rw [e2] at h
        cases h
      | some j =>
        rw [e2] at h
        cases h
        show List.lookup m ((f, w) :: fs.zip vs) = some v
        rw [List.lookup_cons, beq_eq_false_iff_ne.mpr e]
        exact fix_zip e2 (by simpa using hv)
theorem de_fld {G : Gm} {W : WX} {X : Cx} {o : Expr} {m : Str} {pos : Pos} {tb : ATab} {fo : XE} (hK : G.K = X.K) (hA : ∀ c i, tb.lookup c = some i → AOk X.K G m c i) (ho : PE X o (dE G W fo)) (hb : attributeBase o m X.env (eval o X.env) = eval o X.env := by rfl) : PE X (.Attribute o m pos) (dE G W (eFld tb fo)) :=
  PE.imp (pe_fld ho hb) fun σ H Q h => by
  refine un_w (q := fun x H1 Q => ∃ a C dx fs v, x = .ref a ∧ H1 a = some (.ins C dx fs) ∧ Cls X.K C ∧ NoAttr X.K C m ∧ fs.lookup m = some v ∧ Q v H1) (fun σ Q B H r B1 H1 r1 v1 t1 s h => ?_) σ H Q h
  unfold fldK at h
  split at h
  · rename_i f0 c xs hpk
    split at h
    · rename_i i hi
      split at h
      · rename_i u hu
        obtain ⟨a, ws, rfl, ⟨dx, ea, _⟩, hx⟩ := s.rd (i := 0) rfl rfl hpk
        obtain ⟨v, hv, hr⟩ := hx.get hu
        obtain ⟨c1, c2, c3⟩ := hA c i hi
        exact ⟨a, _, dx, _, v, rfl, ea, c1, c2, fix_zip c3 hv, h v B1 H1 (s.put hr)⟩
      · exact h.elim
    · exact h.elim
  · exact h.elim
end PD
end PartPD6

section PartPD7
set_option Elab.async false
set_option linter.all false
set_option maxRecDepth 100000
set_option maxHeartbeats 4000000
namespace PD
open PySem PySem.Spec PyProof.Rows L2

/-! ### a new instance -/
/-- C(..) at the slots σ: the object is laid, then its own __init__ runs -/
theorem mk_run {X : Cx} {k : Nat} {f C : Addr} {fd : FuncData} {ps : List Str} {sp : Sp} {dvs : List V} {ds : List Value} {W : WX} {pins : List (Addr × Obj)} {σ : L2.St} {H : Hp} {s : Shared} {Q : VK} {us : List Value} {vs : List V}
    (M : Mk X.K C f) (F : FnOk X.prog X.w X.K X.mg X.base (L2N.CX X.prog X.w) k f fd ps sp) (hr : Room (k + 1) X.A) (hb : Binds X.K fd ps ds) (hd : Vals dvs ds) (tk : L2N.Takes X W) (I : Inv X pins σ H s) (rv : Vals vs us)
    (h : ∀ x dx, H x = none → H dx = none → dx ≠ x → sp (.ref x :: (vs ++ dvs)) (upd (upd H dx (.own x)) x (.ins C dx [])) (fun v H2 => v = .non ∧ Q (.ref x) H2) (WE W σ)) :
    wpAny (model X.prog X.w) X.A (call (.ref C) us) (EP X pins σ Q) X.xe s := by
  let n := s.heap.objs.size
  have fx : H (n + 1) = none := I.hok.fresh (Nat.le_succ _)
  have fd' : H n = none := I.hok.fresh (Nat.le_refl _)
  have q0 := h (n + 1) n fx fd' (Nat.ne_of_lt (Nat.lt_succ_self n))
  have J := Inv.made (C := C) I
  have rr : Vals (V.ref (n + 1) :: (vs ++ dvs)) (Value.ref (n + 1) :: (us ++ ds)) := .cons rfl (rv.append hd)
  have ll : (Value.ref (n + 1) :: us ++ ds).length = ps.length := rr.length.symm.trans (F.len _ _ _ _ q0)
  have run := F.run _ X.stack _ _ ⟨Value.ref (n + 1) :: us, []⟩ (Value.ref (n + 1) :: (us ++ ds)) _ _ (WE W σ) (hr.make C us []) (J.env0.make C us []) (hb _ (Value.ref (n + 1) :: us) J.kIn ll) rr q0
  refine wpAny_call (make_map (f := f) I.kIn M.makes M.init (beq_iff_eq.mp M.fn) (codeAny_mono run fun res s' hres => ?_))
  match res, hres with
  | .error e, z => exact L2N.passAt tk σ pins _ _ e s' J z
  | .ok (.ret u), z =>
    obtain ⟨v, H', J2, ru, ev, q⟩ := J.after z
    cases ev
    exact ⟨ru, .ref (n + 1), H', J2, rfl, q⟩
  | .ok .next, z => exact z.elim
  | .ok .brk, z => exact z.elim
  | .ok .cont, z => exact z.elim
/-- what is owned and new is shared from here on -/
theorem ES.fold {G : Gm} {B H B1 H1 : Hp} {σ : L2.St} {r r1 : Env} {x : Addr} {o : HO} {k : Kd} {xs : List T} (s : ES G B H σ r B1 H1 r1 [V.ref x] [.nd .ow k xs]) (ho : H1 x = some o) : ES G B H σ r (upd B1 x o) H1 r1 [] [] := by
  have st := s.es.stp.st
  have hx : Own (zl σ r1 ++ prs [V.ref x] [.nd .ow k xs]) x := own_app.mpr (.inr ⟨_, List.mem_singleton.mpr rfl, adr_of rfl⟩)
  have bx := (st.own hx).1
  have nx : ¬ Own (zl σ r1) x := fun ⟨e, he, ha⟩ => (List.pairwise_append.mp st.sep).2.2 e he _ (List.mem_singleton.mpr rfl) x ha (adr_of rfl)
  have i := s.init
  have sB : Same B1 (upd B1 x o) := fun b u e => by
    rw [upd_ne (ne_of_none e bx)]
    exact e
  have p := s.drop
  refine ⟨s.len, rfl, ⟨?_, p.es.ke, p.es.len, p.es.nr, fun _ h => by cases h⟩, s.ps⟩
  have z := s.es.stp
  show Stp G B H (zl σ r) (upd B1 x o) H1 (zl σ r1 ++ [])
  rw [List.append_nil]
  refine { st := ⟨fun b u e => ?_, fun e he => ?_, i.st.sep, i.st.floor.trans sB⟩, ex := z.ex.trans sB, fr := z.fr, nw := fun a h => z.nw a (own_app.mpr (.inl h)), ww := fun a h => z.ww a (wr_app.mpr (.inl h)), nb := fun a h => ?_ }
  · by_cases hb : b = x
    · subst hb
      rw [upd_same] at e
      rw [← e]
      exact ho
    · rw [upd_ne hb] at e
      exact i.st.sub b u e
  · have r0 := i.st.rep e he
    obtain ⟨v, t⟩ := e
    cases t with
    | none => cases v <;> exact trivial
    | some t =>
      cases v with
      | none => exact r0.elim
      | some v =>
        refine Rep.stay sB r0 (fun a f k xs e1 e2 e3 => ?_) fun j ej => absurd (i.nr _ he j (by rw [ej])) (Nat.not_lt_zero j)
        have ow : Own (zl σ r1) a := ⟨_, he, by rw [e1, e2]; exact adr_of e3⟩
        have ne : a ≠ x := fun z => nx (z ▸ ow)
        exact ⟨fun o' h => h, by rw [upd_ne ne]; exact (i.st.own ow).1⟩
  · by_cases hb : a = x
    · subst hb
      exact .inr (z.ww a (wr_app.mpr (.inr ⟨.ow, k, xs, List.mem_singleton.mpr rfl, rfl⟩)))
    · rw [upd_ne hb] at h
      exact z.nb a h
/-- a fresh instance without fields, and its dict -/
theorem ES.newi {G : Gm} {B H B1 H1 : Hp} {σ : L2.St} {r r1 : Env} {vs : List V} {ts : List T} {x dx : Addr} (c : Nat) (s : ES G B H σ r B1 H1 r1 vs ts) (hx : H1 x = none) (hd : H1 dx = none) (ne : dx ≠ x) : ES G B H σ r B1 (upd (upd H1 dx (.own x)) x (.ins (G.cls c) dx [])) r1 (V.ref x :: vs) (.nd .ow (.ins c) [] :: ts) := by
  have st := s.es.stp.st
  have fx := st.free hx
  have fd := st.free hd
  have keep : ∀ a o, H1 a = some o → upd (upd H1 dx (.own x)) x (.ins (G.cls c) dx []) a = some o := fun a o e => by
    rw [upd_ne (ne_of_none e hx), upd_ne (ne_of_none e hd)]
    exact e
  have pr : prs (V.ref x :: vs) (.nd .ow (.ins c) [] :: ts) = (some (V.ref x), some (.nd .ow (.ins c) [])) :: prs vs ts := rfl
  have memE : ∀ e, e ∈ zl σ r1 ++ prs (V.ref x :: vs) (.nd .ow (.ins c) [] :: ts) → e ∈ zl σ r1 ++ prs vs ts ∨ e = (some (V.ref x), some (.nd .ow (.ins c) [])) := fun e he => by
    rw [pr] at he
    rcases List.mem_append.mp he with h | h
    · exact .inl (List.mem_append_left _ h)
    · rcases List.mem_cons.mp h with h | h
      · exact .inr h
      · exact .inl (List.mem_append_right _ h)
  have q : Stp G B1 H1 (zl σ r1 ++ prs vs ts) B1 (upd (upd H1 dx (.own x)) x (.ins (G.cls c) dx [])) (zl σ r1 ++ prs (V.ref x :: vs) (.nd .ow (.ins c) [] :: ts)) := by
    refine { st := ⟨fun b u e => keep b u (st.sub b u e), fun e he => ?_, ?_, st.floor⟩, ex := Same.refl _, fr := fun a o _ h => keep a o h, nw := fun a ⟨e, he, ha⟩ => ?_, ww := fun a ⟨f, k, xs, he, hf⟩ => ?_, nb := fun a h => .inl h }
    · have old : e ∈ zl σ r1 ++ prs vs ts → RepO G B1 (upd (upd H1 dx (.own x)) x (.ins (G.cls c) dx [])) (zl σ r1 ++ prs (V.ref x :: vs) (.nd .ow (.ins c) [] :: ts)) e := fun hm => by
        have r0 := st.rep e hm
        obtain ⟨v, t⟩ := e
        cases t with
        | none => cases v <;> exact trivial
        | some t =>
          cases v with
          | none => exact r0.elim
          | some v =>
            refine Rep.stay (Same.refl _) r0 (fun a f k xs e1 e2 e3 => ⟨fun o h => keep a o h, (st.own ⟨_, hm, by rw [e1, e2]; exact adr_of e3⟩).1⟩) fun j ej => ?_
            subst ej
            obtain ⟨f, k, xs, e1⟩ := r0
            have lt : j < (zl σ r1).length := by
              rcases List.mem_append.mp hm with h | h
              · exact absurd (s.es.nr _ h j rfl) (Nat.not_lt_zero j)
              · rw [s.es.len]
                exact s.es.rn _ h j rfl
            rw [List.getElem?_append_left lt] at e1
            exact ⟨f, k, xs, by rw [List.getElem?_append_left lt]; exact e1⟩
      rcases memE e he with h | h
      · exact old h
      · subst h
        exact ⟨x, [], rfl, fx.1, ⟨dx, by rw [upd_same]; simp, Nat.zero_le _⟩, trivial⟩
    · have z := List.pairwise_append.mp st.sep
      rw [pr]
      refine List.pairwise_append.mpr ⟨z.1, List.pairwise_cons.mpr ⟨fun e he a ha hb => ?_, z.2.1⟩, fun e he e' he' a ha hb => ?_⟩
      · have e1 : x = a := Option.some.inj ((adr_of rfl).symm.trans ha)
        subst e1
        exact fx.2 (own_app.mpr (.inr ⟨e, he, hb⟩))
      · rcases List.mem_cons.mp he' with h | h
        · subst h
          have e1 : x = a := Option.some.inj ((adr_of rfl).symm.trans hb)
          subst e1
          exact fx.2 (own_app.mpr (.inl ⟨e, he, ha⟩))
        · exact z.2.2 e he e' h a ha hb
    · rcases memE e he with h | h
      · exact .inl ⟨e, h, ha⟩
      · subst h
        have e1 : x = a := Option.some.inj ((adr_of rfl).symm.trans ha)
        subst e1
        exact .inr hx
    · rcases memE _ he with h | h
      · exact .inl ⟨f, k, xs, h, hf⟩
      · cases h
        exact .inr hx
  refine ⟨s.len, congrArg Nat.succ s.lv, ⟨s.es.stp.trans q, s.es.ke, s.es.len, s.es.nr, fun e he i ei => ?_⟩, s.ps⟩
  rw [pr] at he
  rcases List.mem_cons.mp he with h | h
  · subst h
    cases ei
  · exact s.es.rn e h i ei
def makeK (c n : Nat) (F : FT) (r1 : Env) (ts : List T) : Res (Env × T) := if ts.length + 1 = n ∧ nodupB (refs ts) then (match F (.nd .ln (.ins c) [] :: ts.map (lend r1)) with
    | .ok (some (.nd .ln (.ins _) ys) :: rr, .sc .non) => .ok (back r1 ts rr, .nd .sh (.ins c) ys)
    | .ok _ => .stuck
    | .err (_ :: rr) c fs => .err (back r1 ts rr) c fs
    | .err [] _ _ => .stuck
    | .stuck => .stuck) else .stuck
section
variable {G : Gm} {W : WX} {X : Cx} {x : Str} {p pos : Pos} {e : Expr} {es : List Expr} {fa : XA} {k n c : Nat} {f : Addr} {F : FT} {ds : List T}
theorem make_w {N : List Str} (hN : n ≤ N.length) (σ : L2.St) (Q : VK) (B H : Hp) (r : Env) (B1 H1 : Hp) (r1 : Env) (vs : List V) (ts : List T) (s : ES G B H σ r B1 H1 r1 vs ts) (h : dEp G W σ Q B H r (makeK c n F r1 ts)) :
    ∀ x dx, H1 x = none → H1 dx = none → dx ≠ x → spT G.toGam.bot N n F (V.ref x :: vs) (upd (upd H1 dx (.own x)) x (.ins (G.cls c) dx [])) (fun v H2 => v = .non ∧ Q (.ref x) H2) (WE W σ) := by
  intro x dx hx hd ne
  unfold makeK at h
  by_cases cc : ts.length + 1 = n ∧ nodupB (refs ts) = true
  · rw [if_pos cc] at h
    have hn := of_decide_eq_true cc.2
    have s1 := s.newi (x := x) (dx := dx) c hx hd ne
    have hl : (V.ref x :: vs).length = n := by
      rw [List.length_cons, s.lv]
      exact cc.1
    have hle : (V.ref x :: vs).length ≤ N.length := by rw [hl]; exact hN
    have hn1 : (refs (T.nd .ow (.ins c) [] :: ts)).Nodup := hn
    refine ⟨B1, (T.nd .ow (.ins c) [] :: ts).map (lend r1), hl, call_in s1 hn1 hle, ?_⟩
    show fnP G.toGam.bot N B1 _ _ _ _ _ (F (.nd .ln (.ins c) [] :: ts.map (lend r1)))
    cases e : F (.nd .ln (.ins c) [] :: ts.map (lend r1)) with
    | ok p =>
      obtain ⟨rc, t⟩ := p
      rw [e] at h
      intro v σ' B' H' cs
      obtain ⟨ys, rr, hrc, made⟩ := call_made s1 hn hle cs
      subst hrc
      cases t with
      | nd _ _ _ => exact h.elim
      | rf _ => exact h.elim
      | sc u =>
        cases u with
        | non =>
          have h1 : dEp G W σ Q B H r (.ok (back r1 ts rr, .nd .sh (.ins c) ys)) := h
          obtain ⟨a, ws, ea, hb, ho, hxs⟩ : ∃ a ws, V.ref x = .ref a ∧ B' a = none ∧ OwC G H' a ws (.ins c) ∧ SRepL G B' ws ys := made.rep (i := 0) rfl rfl
          cases ea
          obtain ⟨dx', ho1, ho2⟩ := ho
          have fo := made.fold ho1
          refine ⟨cs.stp.st.rep (some v, some (.sc .non)) (List.mem_append_right _ (List.mem_singleton.mpr rfl)), h1 (.ref x) _ H' (fo.put ⟨rfl, x, ws, rfl, ⟨dx', by rw [upd_same], ho2⟩, SRepL.mono (fun b u e => ?_) _ _ hxs⟩)⟩
          rw [upd_ne (ne_of_none e hb)]
          exact e
        | _ => exact h.elim
    | err rc cc fs =>
      rw [e] at h
      cases rc with
      | nil => exact h.elim
      | cons c0 rr =>
        intro d B' H' σ' cs xx
        have z := call_out (ts := T.nd .ow (.ins c) [] :: ts) s1 hn1 hle cs
        exact h d B' H' z xx
    | stuck =>
      rw [e] at h
      exact h
  · rw [if_neg cc] at h
    exact h.elim
theorem de_make (hF : FnG X.prog X.w X.K X.mg X.base G k n f F ds) (M : Mk X.K (G.cls c) f) (hr : Room (k + 1) X.A) (hm : X.mg x = some (.ref (G.cls c))) (tk : L2N.Takes X W) (ha : PA X (e :: es) (dA G W fa)) (hg : Gl X x := by rfl) (hdb : (x == ("__debug__" : Str)) = false := by decide)
    (he : starEach (e :: es) X.env = (false, eval e X.env) :: starEach es X.env := by rfl) (hpl : (backTo pos (starEach es X.env)).any (·.1) = false := by rfl) : PE X (.Call (.Name x p) (e :: es) [] pos) (dE G W (onA (aD fa ds) (makeK c n F))) := by
  obtain ⟨fd, ps, N, dV, dvs, h1, h2, h3, h4, h5, h6, h7⟩ := hF.ex
  refine ⟨fun pins s σ H Q I h => ?_⟩
  refine wpAny_Call_Name_kw (ld_glob I hg hm ?_ hdb)
  refine PySem.W.callWith_K (h₀ := X.base) I.ok.mod.kin M.kp (thn (ha.run pos pins s σ H _ I (aD_w (q := fun σ vs H1 Q => ∀ x dx, H1 x = none → H1 dx = none → dx ≠ x → spT G.toGam.bot N ps.length F (V.ref x :: vs) (upd (upd H1 dx (.own x)) x (.ins (G.cls c) dx [])) (fun v H2 => v = .non ∧ Q (.ref x) H2) (WE W σ)) h4
    (fun σ Q B H r B1 H1 r1 vs ts s h => ?_) σ H Q h)) fun us s1 ⟨vs, H1, I1, rv, q⟩ => ⟨I1.kIn, mk_run M h1 hr h2 h3 tk I1 rv fun x dx hx hd ne => q x dx hx hd ne⟩) he hpl
  rw [h5]
  exact make_w (by rw [← h5]; exact h6) σ Q B H r B1 H1 r1 vs ts s h
theorem de_make0 (hF : FnG X.prog X.w X.K X.mg X.base G k n f F ds) (M : Mk X.K (G.cls c) f) (hr : Room (k + 1) X.A) (hm : X.mg x = some (.ref (G.cls c))) (tk : L2N.Takes X W) (hg : Gl X x := by rfl) (hdb : (x == ("__debug__" : Str)) = false := by decide) : PE X (.Call (.Name x p) [] [] pos) (dE G W (onA (aD aN ds) (makeK c n F))) := by
  obtain ⟨fd, ps, N, dV, dvs, h1, h2, h3, h4, h5, h6, h7⟩ := hF.ex
  refine ⟨fun pins s σ H Q I h => ?_⟩
  refine wpAny_Call_Name_kw (ld_glob I hg hm ?_ hdb)
  refine PySem.W.callWith_K0 I.kIn M.kp (mk_run (us := []) (vs := []) M h1 hr h2 h3 tk I .nil fun x dx hx hd ne => ?_)
  obtain ⟨B, r, i, h⟩ := h
  have z : dEp G W σ Q B H r (makeK c n F r ds) := h
  have y := make_w (N := N) (by rw [← h5]; exact h6) σ Q B H r B H r _ _ (i.es.puts (h4 B)) z x dx hx hd ne
  rw [h5]
  exact y
end
/-! ### writing, sharing an owned object -/
section
variable {G : Gm} {W : WX} {X : Cx} {B H B1 H1 : Hp} {σ : L2.St} {r r1 : Env} {vs : List V} {ts : List T}
theorem mem_set_ix {α : Type} : ∀ {l : List α} {i : Nat} {x e : α}, e ∈ l.set i x → (∃ j, j ≠ i ∧ l[j]? = some e) ∨ (e = x ∧ i < l.length)
  | [], i, x, e, h => by simp at h
  | y :: l, 0, x, e, h => by
    rcases List.mem_cons.mp h with h | h
    · exact .inr ⟨h, by simp⟩
    · obtain ⟨j, hj⟩ := List.mem_iff_getElem?.mp h
      exact .inl ⟨j + 1, by simp, by simpa using hj⟩
  | y :: l, i + 1, x, e, h => by
    rcases List.mem_cons.mp h with h | h
    · exact .inl ⟨0, by simp, by simp [h]⟩
    · rcases mem_set_ix h with ⟨j, h1, h2⟩ | ⟨h1, h2⟩
      · exact .inl ⟨j + 1, by omega, by simpa using h2⟩
      · exact .inr ⟨h1, by simpa using h2⟩
theorem get_lt {α : Type} {l : List α} {i : Nat} {x : α} (h : l[i]? = some x) : i < l.length := (List.getElem?_eq_some_iff.mp h).1
theorem set_sep {L : List Ent} {i : Nat} {v : V} {f f' : Fl} {k : Kd} {xs ys : List T} (h : L.Pairwise fun e e' => ∀ a, adr e = some a → adr e' ≠ some a) (hi : L[i]? = some (some v, some (.nd f k xs))) (q : owf f = true) :
    (L.set i (some v, some (.nd f' k ys))).Pairwise fun e e' => ∀ a, adr e = some a → adr e' ≠ some a := by
  have old : ∀ (j : Nat) (e : Ent) (a : Addr), (L.set i (some v, some (.nd f' k ys)))[j]? = some e → adr e = some a → ∃ u, L[j]? = some u ∧ adr u = some a := fun j e a he ha => by
    by_cases e1 : i = j
    · subst e1
      rw [List.getElem?_set_self (get_lt hi)] at he
      cases he
      obtain ⟨_, _, _, e2, _⟩ := adr_own ha
      have ev : v = .ref a := Option.some.inj (congrArg Prod.fst e2)
      exact ⟨_, hi, by rw [ev]; exact adr_of q⟩
    · rw [List.getElem?_set_ne e1] at he
      exact ⟨e, he, ha⟩
  refine ix_sep fun j1 j2 e e' a h1 h2 ha hb => ?_
  obtain ⟨u, hu, hua⟩ := old j1 e a h1 ha
  obtain ⟨u', hu', hua'⟩ := old j2 e' a h2 hb
  exact sep_ix h hu hu' hua hua'
/-- the object of slot i is written -/
theorem ES.write {i : Nat} {a : Addr} {f : Fl} {k : Kd} {xs ys : List T} {ws : List V} {o : HO} (s : ES G B H σ r B1 H1 r1 vs ts) (hi : (zl σ r1)[i]? = some (some (V.ref a), some (.nd f k xs))) (hf : wrf f = true)
    (ho : OwC G (upd H1 a o) a ws k) (hy : SRepL G B1 ws ys) : ES G B H σ r B1 (upd H1 a o) (r1.set i (some (.nd f k ys))) [] [] := by
  have q : owf f = true := by cases f <;> first | rfl | cases hf
  have ini := s.init
  have st := ini.st
  have own_a : Own (zl σ r1) a := ⟨_, List.mem_of_getElem? hi, adr_of q⟩
  have ba := (st.own own_a).1
  have e0 : zl σ (r1.set i (some (.nd f k ys))) = (zl σ r1).set i (some (V.ref a), some (.nd f k ys)) := by
    have h1 := (zl_get hi).1
    have e1 : σ.set i (some (V.ref a)) = σ := by
      apply List.ext_getElem?
      intro j
      by_cases e : i = j
      · subst e
        rw [List.getElem?_set_self (get_lt h1), h1]
      · rw [List.getElem?_set_ne e]
    have := zip_set σ r1 i (some (V.ref a)) (some (.nd f k ys))
    rw [e1] at this
    exact this
  have nr : Refs 0 ((zl σ r1).set i (some (V.ref a), some (.nd f k ys))) := fun e he j ej => by
    rcases mem_set_ix he with ⟨j', _, h⟩ | ⟨h, _⟩
    · exact ini.nr e (List.mem_of_getElem? h) j ej
    · subst h
      cases ej
  have step : Stp G B1 H1 (zl σ r1) B1 (upd H1 a o) ((zl σ r1).set i (some (V.ref a), some (.nd f k ys))) := by
    refine { st := ⟨fun b u e => ?_, fun e he => ?_, set_sep st.sep hi q, st.floor⟩, ex := Same.refl _, fr := fun b u n h => ?_, nw := fun b ⟨e, he, ha⟩ => ?_, ww := fun b ⟨f', k', xs', he, hf'⟩ => ?_, nb := fun b h => .inl h }
    · rw [upd_ne (ne_of_none e ba)]
      exact st.sub b u e
    · rcases mem_set_ix he with ⟨j, hj, h⟩ | ⟨h, _⟩
      · have r0 := st.rep e (List.mem_of_getElem? h)
        obtain ⟨v, t⟩ := e
        cases t with
        | none => cases v <;> exact trivial
        | some t =>
          cases v with
          | none => exact r0.elim
          | some v =>
            refine Rep.stay (Same.refl _) r0 (fun b f' k' xs' e1 e2 e3 => ?_) fun j' ej => absurd (ini.nr _ (List.mem_of_getElem? h) j' (by rw [ej])) (Nat.not_lt_zero j')
            have ad : adr (some v, some t) = some b := by rw [e1, e2]; exact adr_of e3
            have ne : b ≠ a := fun z => hj (sep_ix st.sep h hi ad (by rw [z]; exact adr_of q))
            exact ⟨fun u h => by rw [upd_ne ne]; exact h, (st.own ⟨_, List.mem_of_getElem? h, ad⟩).1⟩
      · subst h
        show (if owf f then ∃ a' vs, V.ref a = .ref a' ∧ B1 a' = none ∧ OwC G (upd H1 a o) a' vs k ∧ SRepL G B1 vs ys else _)
        rw [if_pos q]
        exact ⟨a, ws, rfl, ba, ho, hy⟩
    · have ne : b ≠ a := fun z => n ⟨f, k, xs, z ▸ List.mem_of_getElem? hi, hf⟩
      rw [upd_ne ne]
      exact h
    · rcases mem_set_ix he with ⟨j, _, h⟩ | ⟨h, _⟩
      · exact .inl ⟨e, List.mem_of_getElem? h, ha⟩
      · subst h
        have e1 : a = b := Option.some.inj ((adr_of q).symm.trans ha)
        exact .inl (e1 ▸ own_a)
    · rcases mem_set_ix he with ⟨j, _, h⟩ | ⟨h, _⟩
      · exact .inl ⟨f', k', xs', List.mem_of_getElem? h, hf'⟩
      · cases h
        exact .inl ⟨f, k, xs, List.mem_of_getElem? hi, hf⟩
  have ke : KeptE (zl σ r1) ((zl σ r1).set i (some (V.ref a), some (.nd f k ys))) := fun j v f' k' xs' e => by
    by_cases e1 : i = j
    · subst e1
      rw [hi] at e
      cases e
      exact ⟨f, ys, List.getElem?_set_self (get_lt hi), fun _ => rfl⟩
    · exact ⟨f', xs', by rw [List.getElem?_set_ne e1]; exact e, fun _ => rfl⟩
  have p := s.drop
  refine ⟨by rw [List.length_set]; exact s.len, rfl, ⟨?_, ?_, ?_, ?_, fun _ h => by cases h⟩, s.ps⟩
  · show Stp G B H (zl σ r) B1 (upd H1 a o) (zl σ (r1.set i (some (.nd f k ys))) ++ [])
    rw [List.append_nil, e0]
    have z := p.es.stp
    have z2 : Stp G B H (zl σ r) B1 H1 (zl σ r1 ++ []) := z
    rw [List.append_nil] at z2
    exact z2.trans step
  · rw [e0]
    exact s.es.ke.trans ke
  · rw [e0, List.length_set]
    exact s.es.len
  · rw [e0]
    exact nr
/-- the object of slot i is shared from here on -/
theorem ES.foldS {i : Nat} {v : V} {k : Kd} {xs : List T} (s : ES G B H σ r B1 H1 r1 vs ts) (hi : (zl σ r1)[i]? = some (some v, some (.nd .ow k xs))) :
    ∃ B2, ES G B H σ r B2 H1 (r1.set i (some (.nd .sh k xs))) [v] [.nd .sh k xs] := by
  have ini := s.init
  have st := ini.st
  have rp := st.rep _ (List.mem_of_getElem? hi)
  obtain ⟨a, ws, rfl, ba, ho, hx⟩ : ∃ a ws, v = .ref a ∧ B1 a = none ∧ OwC G H1 a ws k ∧ SRepL G B1 ws xs := rp
  obtain ⟨o, hoa⟩ := ho.there
  have sB : Same B1 (upd B1 a o) := fun b u e => by
    rw [upd_ne (ne_of_none e ba)]
    exact e
  have e0 : zl σ (r1.set i (some (.nd .sh k xs))) = (zl σ r1).set i (some (V.ref a), some (.nd .sh k xs)) := by
    have h1 := (zl_get hi).1
    have e1 : σ.set i (some (V.ref a)) = σ := by
      apply List.ext_getElem?
      intro j
      by_cases e : i = j
      · subst e
        rw [List.getElem?_set_self (get_lt h1), h1]
      · rw [List.getElem?_set_ne e]
    have := zip_set σ r1 i (some (V.ref a)) (some (.nd .sh k xs))
    rw [e1] at this
    exact this
  have hs : SRep G (upd B1 a o) (.ref a) (.nd .sh k xs) := by
    refine ⟨rfl, a, ws, rfl, ?_, SRepL.mono sB _ _ hx⟩
    cases k with
    | lst =>
      have e : H1 a = some (.lst ws) := ho
      rw [e] at hoa
      cases hoa
      exact upd_same
    | tup => exact ho.elim
    | fro => exact ho.elim
    | ins c =>
      obtain ⟨dx, e, l⟩ := ho
      rw [e] at hoa
      cases hoa
      exact ⟨dx, upd_same, l⟩
  have nr : Refs 0 ((zl σ r1).set i (some (V.ref a), some (.nd .sh k xs))) := fun e he j ej => by
    rcases mem_set_ix he with ⟨j', _, h⟩ | ⟨h, _⟩
    · exact ini.nr e (List.mem_of_getElem? h) j ej
    · subst h
      cases ej
  have step : Stp G B1 H1 (zl σ r1) (upd B1 a o) H1 ((zl σ r1).set i (some (V.ref a), some (.nd .sh k xs))) := by
    refine { st := ⟨fun b u e => ?_, fun e he => ?_, set_sep st.sep hi rfl, st.floor.trans sB⟩, ex := sB, fr := fun b u n h => h, nw := fun b ⟨e, he, ha⟩ => ?_, ww := fun b ⟨f', k', xs', he, hf'⟩ => ?_, nb := fun b h => ?_ }
    · by_cases hb : b = a
      · subst hb
        rw [upd_same] at e
        rw [← e]
        exact hoa
      · rw [upd_ne hb] at e
        exact st.sub b u e
    · rcases mem_set_ix he with ⟨j, hj, h⟩ | ⟨h, _⟩
      · have r0 := st.rep e (List.mem_of_getElem? h)
        obtain ⟨v, t⟩ := e
        cases t with
        | none => cases v <;> exact trivial
        | some t =>
          cases v with
          | none => exact r0.elim
          | some v =>
            refine Rep.stay sB r0 (fun b f' k' xs' e1 e2 e3 => ?_) fun j' ej => absurd (ini.nr _ (List.mem_of_getElem? h) j' (by rw [ej])) (Nat.not_lt_zero j')
            have ad : adr (some v, some t) = some b := by rw [e1, e2]; exact adr_of e3
            have ne : b ≠ a := fun z => hj (sep_ix st.sep h hi ad (by rw [z]; exact adr_of rfl))
            exact ⟨fun u h => h, by rw [upd_ne ne]; exact (st.own ⟨_, List.mem_of_getElem? h, ad⟩).1⟩
      · subst h
        exact hs
    · rcases mem_set_ix he with ⟨j, _, h⟩ | ⟨h, _⟩
      · exact .inl ⟨e, List.mem_of_getElem? h, ha⟩
      · subst h
        cases ha
    · rcases mem_set_ix he with ⟨j, _, h⟩ | ⟨h, _⟩
      · exact .inl ⟨f', k', xs', List.mem_of_getElem? h, hf'⟩
      · cases h
        cases hf'
    · by_cases hb : b = a
      · subst hb
        exact .inr (.inl ⟨.ow, k, xs, List.mem_of_getElem? hi, rfl⟩)
      · rw [upd_ne hb] at h
        exact .inl h
  have ke : KeptE (zl σ r1) ((zl σ r1).set i (some (V.ref a), some (.nd .sh k xs))) := fun j v f' k' xs' e => by
    by_cases e1 : i = j
    · subst e1
      rw [hi] at e
      cases e
      exact ⟨.sh, xs, List.getElem?_set_self (get_lt hi), fun l => by rcases l with l | l <;> cases l⟩
    · exact ⟨f', xs', by rw [List.getElem?_set_ne e1]; exact e, fun _ => rfl⟩
  have p := s.drop
  have es0 : ES G B H σ r (upd B1 a o) H1 (r1.set i (some (.nd .sh k xs))) [] [] := by
    refine ⟨by rw [List.length_set]; exact s.len, rfl, ⟨?_, ?_, ?_, ?_, fun _ h => by cases h⟩, s.ps⟩
    · show Stp G B H (zl σ r) (upd B1 a o) H1 (zl σ (r1.set i (some (.nd .sh k xs))) ++ [])
      rw [List.append_nil, e0]
      have z2 : Stp G B H (zl σ r) B1 H1 (zl σ r1 ++ []) := p.es.stp
      rw [List.append_nil] at z2
      exact z2.trans step
    · rw [e0]
      exact s.es.ke.trans ke
    · rw [e0, List.length_set]
      exact s.es.len
    · rw [e0]
      exact nr
  exact ⟨upd B1 a o, es0.put hs⟩
def frzK (r : Env) (t : T) : Res (Env × T) := match t with
  | .sc u => .ok (r, .sc u)
  | .nd .sh k xs => .ok (r, .nd .sh k xs)
  | .nd .ow k xs => .ok (r, .nd .sh k xs)
  | .rf i => (match r[i]? with
    | some (some (.nd .ow k xs)) => .ok (r.set i (some (.nd .sh k xs)), .nd .sh k xs)
    | some (some (.nd .sh k xs)) => .ok (r, .nd .sh k xs)
    | _ => .stuck)
  | _ => .stuck
/-- shared from here on -/
def eFz (f : XE) : XE := un f frzK
theorem frz_w {v : V} {t : T} {Q : VK} (s : ES G B H σ r B1 H1 r1 [v] [t]) (h : dEp G W σ Q B H r (frzK r1 t)) : Q v H1 := by
  cases t with
  | sc u => exact h v B1 H1 s
  | nd f k xs =>
    cases f with
    | sh => exact h v B1 H1 s
    | ln => exact h.elim
    | lk => exact h.elim
    | ow =>
      obtain ⟨a, ws, rfl, ba, ho, hx⟩ : ∃ a ws, v = .ref a ∧ B1 a = none ∧ OwC G H1 a ws k ∧ SRepL G B1 ws xs := s.rep (i := 0) rfl rfl
      obtain ⟨o, hoa⟩ := ho.there
      have fo := s.fold hoa
      have sB : Same B1 (upd B1 a o) := fun b u e => by
        rw [upd_ne (ne_of_none e ba)]
        exact e
      refine h (.ref a) _ H1 (fo.put ⟨rfl, a, ws, rfl, ?_, SRepL.mono sB _ _ hx⟩)
      cases k with
      | lst =>
        have e : H1 a = some (.lst ws) := ho
        rw [e] at hoa
        cases hoa
        exact upd_same
      | tup => exact ho.elim
      | fro => exact ho.elim
      | ins c =>
        obtain ⟨dx, e, l⟩ := ho
        rw [e] at hoa
        cases hoa
        exact ⟨dx, upd_same, l⟩
  | rf i =>
    obtain ⟨f, k, xs, h3⟩ := s.rep (i := 0) (v := v) (t := .rf i) rfl rfl
    have lt : i < (zl σ r).length := s.es.rn _ (prs_mem (i := 0) (vs := [v]) (ts := [T.rf i]) rfl rfl) i rfl
    rw [List.getElem?_append_left (by rw [s.es.len]; exact lt)] at h3
    have h4 := (zl_get h3).2
    unfold frzK at h
    simp only [h4] at h
    cases f with
    | ln => exact h.elim
    | lk => exact h.elim
    | sh =>
      have rp := s.init.st.rep _ (List.mem_of_getElem? h3)
      exact h v B1 H1 (s.put (t := .nd .sh k xs) rp)
    | ow =>
      obtain ⟨B2, s2⟩ := s.foldS h3
      exact h v B2 H1 s2
theorem de_fz {e : Expr} {f : XE} (h : PE X e (dE G W f)) : PE X e (dE G W (eFz f)) := PE.imp h fun σ H Q h => un_w (q := fun x H1 Q => Q x H1) (fun σ Q B H r B1 H1 r1 v1 t1 s h => frz_w s h) σ H Q h
end
/-! ### self.f = e on an own instance of slot i -/
def storeK (tb : ATab) (i : Nat) (t : T) : XS := fun r => match r[i]? with
  | some (some (.nd f (.ins c) xs)) => (match tb.lookup c with
    | some j => if wrf f && decide (j ≤ xs.length) then .ok (.nx (r.set i (some (.nd f (.ins c) (if j < xs.length then xs.set j t else xs ++ [t]))))) else .stuck
    | none => .stuck)
  | _ => .stuck
def sFldS (tb : ATab) (i : Nat) (f : XE) : XS := fun r => match eFz f r with
  | .ok (r1, t) => storeK tb i t r1
  | .err r c fs => .err r c fs
  | .stuck => .stuck
theorem putF_zip {m : Str} {y : V} : ∀ {fs : List Str} {vs : List V} {j : Nat}, fs.Nodup → fix fs m = some j → j ≤ vs.length → vs.length ≤ fs.length → putF m y (fs.zip vs) = fs.zip (if j < vs.length then vs.set j y else vs ++ [y])
  | [], _, _, _, h, _, _ => by cases h
  | f :: fs, vs, j, nd, h, h1, h2 => by
    unfold fix at h
    by_cases e : m = f
    · rw [if_pos e] at h
      cases h
      subst e
      cases vs with
      | nil =>
        show putF m y [] = (m :: fs).zip [y]
        simp [putF]
      | cons v vs =>
        show (if m = m then _ else _) = _
        rw [if_pos rfl]
        rfl
    · rw [if_neg e] at h
      cases e2 : fix fs m with
      | none =>
        rw [e2] at h
        cases h
      | some i =>
        rw [e2] at h
        cases h
        cases vs with
        | nil => simp at h1
        | cons v vs =>
          have ih := putF_zip (y := y) (vs := vs) (List.nodup_cons.mp nd).2 e2 (by simpa using h1) (by simpa using h2)
          show (if f = m then (f, y) :: fs.zip vs else (f, v) :: putF m y (fs.zip vs)) = _
          rw [if_neg fun z => e z.symm, ih]
          by_cases l : i < vs.length
          · rw [if_pos l, if_pos (by simpa using l)]
            rfl
          · rw [if_neg l, if_neg (by simpa using l)]
            rfl
theorem ds_fld {G : Gm} {W : WX} {X : Cx} {e : Expr} {m sf : Str} {p1 pos' pos : Pos} {tb : ATab} {i : Nat} {fe : XE} (hK : G.K = X.K) (hA : ∀ c j, tb.lookup c = some j → AOk X.K G m c j ∧ (G.flds c).Nodup ∧ (G.flds c).length < 1000) (he : PE X e (dE G W fe)) (ho : PE X (.Name sf p1) (tVar i) := by exact pv _)
    (hs : swapsWith e (some (.Attribute (.Name sf p1) m pos')) pos.line X.env = pure false := by rfl) : PS X (.Assign [.Attribute (.Name sf p1) m pos'] e pos) (dS G W (sFldS tb i fe)) := PS.imp (ps_fld ho (de_fz he) hs) fun D σ H h => by
  obtain ⟨B, r, ini, h⟩ := h
  refine ⟨B, r, ini, ?_⟩
  unfold sFldS at h
  cases e1 : eFz fe r with
  | err r1 c fs =>
    rw [e1] at h
    exact wErrS.of h
  | stuck =>
    rw [e1] at h
    exact h
  | ok p =>
    obtain ⟨r1, t⟩ := p
    rw [e1] at h
    intro v B1 H1 s
    have h1 : dSp G W D σ B H r (storeK tb i t r1) := h
    unfold storeK at h1
    split at h1
    · rename_i f c xs hr
      split at h1
      · rename_i j hj
        split at h1
        · rename_i hw
          obtain ⟨w1, w2⟩ := Bool.and_eq_true_iff.mp hw
          have w3 := of_decide_eq_true w2
          obtain ⟨⟨a1, a2, a3⟩, nd, lt⟩ := hA c j hj
          -- the slot's own value
          have li : i < σ.length := by
            rw [s.len]
            exact get_lt hr
          have hz : (zl σ r1)[i]? = some (σ[i], some (.nd f (.ins c) xs)) := zl_of (by simp [li]) hr
          have rp := s.init.st.rep _ (List.mem_of_getElem? hz)
          cases ev : σ[i] with
          | none =>
            rw [ev] at rp
            exact rp.elim
          | some w =>
            rw [ev] at rp hz
            have q : owf f = true := by cases f <;> first | rfl | cases w1
            have rp' : (if owf f then ∃ a vs, w = .ref a ∧ B1 a = none ∧ OwC G H1 a vs (.ins c) ∧ SRepL G B1 vs xs else SRep G B1 w (.nd f (.ins c) xs)) := rp
            rw [if_pos q] at rp'
            obtain ⟨a, ws, rfl, ba, ⟨dx, ha, hl⟩, hx⟩ := rp'
            -- the value's own account: it is shared
            have sv : SRep G B1 v t := by
              have rv := s.rep (i := 0) (v := v) (t := t) rfl rfl
              unfold eFz un at e1
              cases e2 : fe r with
              | ok p2 =>
                obtain ⟨r2, t2⟩ := p2
                rw [e2] at e1
                have e3 : frzK r2 t2 = .ok (r1, t) := e1
                cases t2 with
                | sc u =>
                  cases e3
                  exact rv
                | nd f2 k2 xs2 =>
                  cases f2 <;> first | (cases e3; exact rv) | cases e3
                | rf j2 =>
                  unfold frzK at e3
                  dsimp only at e3
                  split at e3
                  · cases e3
                    exact rv
                  · cases e3
                    exact rv
                  · cases e3
              | err _ _ _ =>
                rw [e2] at e1
                cases e1
              | stuck =>
                rw [e2] at e1
                cases e1
            have lx : ws.length = xs.length := hx.length
            have hv1 : σ[i]? = some (some (V.ref a)) := by simp [li, ev]
            have lenz : ((G.flds c).zip ws).length < 1000 := by
              rw [List.length_zip]
              omega
            refine ⟨V.ref a, hv1, a, _, dx, _, rfl, ha, a1, a2, lenz, ?_⟩
            rw [putF_zip nd a3 (by rw [lx]; exact w3) hl]
            have upto : (if j < ws.length then ws.set j v else ws ++ [v]).length ≤ (G.flds c).length := by
              have jl : j < (G.flds c).length := by
                have : ∀ {fs : List Str} {n : Nat}, fix fs m = some n → n < fs.length := by
                  intro fs
                  induction fs with
                  | nil => intro n h; cases h
                  | cons f fs ih =>
                    intro n h
                    unfold fix at h
                    split at h
                    · cases h
                      simp
                    · cases e4 : fix fs m with
                      | none => rw [e4] at h; cases h
                      | some n' =>
                        rw [e4] at h
                        cases h
                        have := ih e4
                        simpa using this
                exact this a3
              split
              · rw [List.length_set]
                exact hl
              · rw [List.length_append, List.length_singleton]
                omega
            have rep' : SRepL G B1 (if j < ws.length then ws.set j v else ws ++ [v]) (if j < xs.length then xs.set j t else xs ++ [t]) := by
              rw [lx]
              split
              · exact SRepL.set sv j hx
              · exact SRepL.append hx ⟨sv, trivial⟩
            have wr := s.write (o := .ins (G.cls c) dx ((G.flds c).zip (if j < ws.length then ws.set j v else ws ++ [v]))) hz w1 ⟨dx, upd_same, upto⟩ rep'
            exact h1 σ B1 _ wr.ss0
        · exact h1.elim
      · exact h1.elim
    · exact h1.elim
end PD
end PartPD7

section PartPD8
set_option Elab.async false
set_option linter.all false
set_option maxRecDepth 100000
set_option maxHeartbeats 4000000
namespace PD
open PySem PySem.Spec PyProof.Rows L2

/-! ### truth -/
def truK (r : Env) (t : T) : Option Bool := match pk r t with
  | .sc .non => some false
  | .sc (.bl b) => some b
  | .sc (.int i) => some (i != 0)
  | .sc (.str y) => if y.length ≤ sizeLine then some ((y.length : Int) != 0) else none
  | .nd _ .lst xs => some (!xs.isEmpty)
  | .nd _ .fro xs => some (!xs.isEmpty)
  | .nd _ .tup xs => some (!xs.isEmpty)
  | _ => none
def tOf (f : XE) : XT := fun r => match f r with
  | .ok (r1, t) => (match truK r1 t with
    | some b => .ok (r1, b)
    | none => .stuck)
  | .err r c fs => .err r c fs
  | .stuck => .stuck
def tAnd (a b : XT) : XT := fun r => match a r with
  | .ok (r1, true) => b r1
  | o => o
def tOr (a b : XT) : XT := fun r => match a r with
  | .ok (r1, false) => b r1
  | o => o
def tNot (a : XT) : XT := fun r => match a r with
  | .ok (r1, b) => .ok (r1, !b)
  | .err r c fs => .err r c fs
  | .stuck => .stuck
theorem SRepL.empty {G : Gm} {B : Hp} {vs : List V} {ts : List T} (h : SRepL G B vs ts) : (!vs.isEmpty) = !ts.isEmpty := by
  have l := h.length
  cases vs <;> cases ts <;> first | rfl | cases l
theorem ES.pkd {G : Gm} {B H B1 H1 : Hp} {σ : L2.St} {r r1 : Env} {vs : List V} {ts : List T} (s : ES G B H σ r B1 H1 r1 vs ts) {i : Nat} {v : V} {t : T} (h1 : vs[i]? = some v) (h2 : ts[i]? = some t) {u : V} (hp : pk r1 t = .sc u) : v = u := by
  cases t with
  | sc w =>
    cases hp
    exact s.sc h1 h2
  | nd f k xs => cases hp
  | rf j =>
    obtain ⟨f, k, xs, h3⟩ := s.rep h1 h2
    have lt : j < (zl σ r).length := s.es.rn _ (prs_mem h1 h2) j rfl
    rw [List.getElem?_append_left (by rw [s.es.len]; exact lt)] at h3
    have h4 := (zl_get h3).2
    unfold pk at hp
    simp only [h4] at hp
    cases hp
section
variable {G : Gm} {W : WX} {X : Cx} {a b e : Expr} {fe : XE} {fa fb : XT} {pos : Pos} {rest : List Expr}
theorem dt_of (hK : G.K = X.K) (h : PE X e (dE G W fe)) (he : ∀ whole, isTrue e X.env whole = (do let v ← whole; standAt e.pos; holding [v] (truthy v)) := by intro _; rfl) : PT X e (dT G W (tOf fe)) := PT.imp (pt_truth h he) fun σ H Q h => by
  obtain ⟨B, r, ini, h⟩ := h
  refine ⟨B, r, ini, ?_⟩
  unfold tOf at h
  cases ef : fe r with
  | ok p =>
    obtain ⟨r1, t⟩ := p
    rw [ef] at h
    intro v B1 H1 s
    have h1 : dTp G W σ Q B H r (match truK r1 t with
      | some b => .ok (r1, b)
      | none => .stuck) := h
    cases et : truK r1 t with
    | none =>
      rw [et] at h1
      exact h1.elim
    | some k =>
      rw [et] at h1
      refine ⟨k, ?_, h1 B1 H1 s.drop⟩
      unfold truK at et
      split at et
      · rename_i hp
        cases et
        rw [s.pkd (i := 0) rfl rfl hp]
        exact rfl
      · rename_i hp
        cases et
        rw [s.pkd (i := 0) rfl rfl hp]
        exact rfl
      · rename_i hp
        cases et
        rw [s.pkd (i := 0) rfl rfl hp]
        exact rfl
      · rename_i y hp
        rw [s.pkd (i := 0) rfl rfl hp]
        split at et
        · rename_i l
          cases et
          exact ⟨l, rfl⟩
        · cases et
      · rename_i hp
        cases et
        obtain ⟨a, ws, rfl, hl, hx⟩ := s.rd (i := 0) rfl rfl hp
        exact .inl ⟨ws, SqL.of hl, hx.empty.symm⟩
      · rename_i hp
        cases et
        obtain ⟨a, ws, rfl, hl, hx⟩ := s.rd (i := 0) rfl rfl hp
        exact .inl ⟨ws, hK ▸ hl, hx.empty.symm⟩
      · rename_i hp
        cases et
        obtain ⟨a, ws, rfl, hl, hx⟩ := s.rd (i := 0) rfl rfl hp
        exact .inr (.inl ⟨ws, hK ▸ hl, hx.empty.symm⟩)
      · cases et
  | err r1 c fs =>
    rw [ef] at h
    exact h
  | stuck =>
    rw [ef] at h
    exact h
theorem dT_seq {g : XT} {σ : L2.St} {H : Hp} {Q R : Bool → Hp → Prop} (h : dT G W g σ H Q) (f : ∀ r, g r = fa r ∨ True) : True := trivial
theorem tAnd_w {fa fb : XT} (σ : L2.St) (H : Hp) (Q : Bool → Hp → Prop) (h : dT G W (tAnd fa fb) σ H Q) : dT G W fa σ H fun c H1 => if c = true then dT G W fb σ H1 Q else Q false H1 := by
  obtain ⟨B, r, ini, h⟩ := h
  refine ⟨B, r, ini, ?_⟩
  unfold tAnd at h
  cases ea : fa r with
  | ok p =>
    obtain ⟨r1, c⟩ := p
    rw [ea] at h
    intro B1 H1 s
    cases c with
    | true =>
      rw [if_pos rfl]
      refine ⟨B1, r1, s.init, ?_⟩
      have h1 : dTp G W σ Q B H r (fb r1) := h
      cases eb : fb r1 with
      | ok p2 =>
        obtain ⟨r2, c2⟩ := p2
        rw [eb] at h1
        exact fun B2 H2 s2 => h1 B2 H2 (s.app s2)
      | err r2 c fs =>
        rw [eb] at h1
        exact wErr.later s h1
      | stuck =>
        rw [eb] at h1
        exact h1
    | false =>
      rw [if_neg Bool.false_ne_true]
      exact h B1 H1 s
  | err r1 c fs =>
    rw [ea] at h
    exact h
  | stuck =>
    rw [ea] at h
    exact h
theorem tOr_w {fa fb : XT} (σ : L2.St) (H : Hp) (Q : Bool → Hp → Prop) (h : dT G W (tOr fa fb) σ H Q) : dT G W fa σ H fun c H1 => if c = true then Q true H1 else dT G W fb σ H1 Q := by
  obtain ⟨B, r, ini, h⟩ := h
  refine ⟨B, r, ini, ?_⟩
  unfold tOr at h
  cases ea : fa r with
  | ok p =>
    obtain ⟨r1, c⟩ := p
    rw [ea] at h
    intro B1 H1 s
    cases c with
    | false =>
      rw [if_neg Bool.false_ne_true]
      refine ⟨B1, r1, s.init, ?_⟩
      have h1 : dTp G W σ Q B H r (fb r1) := h
      cases eb : fb r1 with
      | ok p2 =>
        obtain ⟨r2, c2⟩ := p2
        rw [eb] at h1
        exact fun B2 H2 s2 => h1 B2 H2 (s.app s2)
      | err r2 c fs =>
        rw [eb] at h1
        exact wErr.later s h1
      | stuck =>
        rw [eb] at h1
        exact h1
    | true =>
      rw [if_pos rfl]
      exact h B1 H1 s
  | err r1 c fs =>
    rw [ea] at h
    exact h
  | stuck =>
    rw [ea] at h
    exact h
theorem tNot_w {fa : XT} (σ : L2.St) (H : Hp) (Q : Bool → Hp → Prop) (h : dT G W (tNot fa) σ H Q) : dT G W fa σ H fun c H1 => Q (!c) H1 := by
  obtain ⟨B, r, ini, h⟩ := h
  refine ⟨B, r, ini, ?_⟩
  unfold tNot at h
  cases ea : fa r with
  | ok p =>
    obtain ⟨r1, c⟩ := p
    rw [ea] at h
    exact fun B1 H1 s => h B1 H1 s
  | err r1 c fs =>
    rw [ea] at h
    exact h
  | stuck =>
    rw [ea] at h
    exact h
theorem dw_and1 (ha : PT X a (dT G W fa)) : PW X (.BoolOp .And [a] pos) (dT G W fa) := pw_and1 ha
theorem dw_or1 (ha : PT X a (dT G W fa)) : PW X (.BoolOp .Or [a] pos) (dT G W fa) := pw_or1 ha
theorem dw_and (ha : PT X a (dT G W fa)) (hb : PW X (.BoolOp .And (b :: rest) pos) (dT G W fb)) : PW X (.BoolOp .And (a :: b :: rest) pos) (dT G W (tAnd fa fb)) := PW.imp (pw_and ha hb) tAnd_w
theorem dw_or (ha : PT X a (dT G W fa)) (hb : PW X (.BoolOp .Or (b :: rest) pos) (dT G W fb)) : PW X (.BoolOp .Or (a :: b :: rest) pos) (dT G W (tOr fa fb)) := PW.imp (pw_or ha hb) tOr_w
theorem dt_not (ha : PT X a (dT G W fa)) : PT X (.UnaryOp .Not a pos) (dT G W (tNot fa)) := PT.imp (pt_not ha) tNot_w
end
/-! ### and, or, not, if as values -/
def eAnd (fa fb : XE) : XE := fun r => match fa r with
  | .ok (r1, .sc (.bl true)) => fb r1
  | .ok (r1, .sc (.bl false)) => .ok (r1, .sc (.bl false))
  | .ok _ => .stuck
  | .err r c fs => .err r c fs
  | .stuck => .stuck
def eOr (fa fb : XE) : XE := fun r => match fa r with
  | .ok (r1, .sc (.bl false)) => fb r1
  | .ok (r1, .sc (.bl true)) => .ok (r1, .sc (.bl true))
  | .ok _ => .stuck
  | .err r c fs => .err r c fs
  | .stuck => .stuck
def eNot (fa : XE) : XE := un fa fun r t => match t with
  | .sc (.bl b) => .ok (r, .sc (.bl (!b)))
  | _ => .stuck
def eIf (c : XT) (fa fb : XE) : XE := fun r => match c r with
  | .ok (r1, true) => fa r1
  | .ok (r1, false) => fb r1
  | .err r c fs => .err r c fs
  | .stuck => .stuck
section
variable {G : Gm} {W : WX} {X : Cx} {a b e : Expr} {fa fb : XE} {fc : XT} {pos : Pos} {rest : List Expr}
theorem dE_on {σ : L2.St} {B H B1 H1 : Hp} {r r1 : Env} {vs : List V} {ts : List T} {Q : VK} {f : XE} (s : ES G B H σ r B1 H1 r1 vs ts) (h : dEp G W σ Q B H r (f r1)) : dE G W f σ H1 Q := by
  refine ⟨B1, r1, s.init, ?_⟩
  cases e : f r1 with
  | ok p =>
    obtain ⟨r2, t⟩ := p
    rw [e] at h
    intro v B2 H2 s2
    have z := s.drop.app s2
    exact h v B2 H2 z
  | err r2 c fs =>
    rw [e] at h
    exact wErr.later s h
  | stuck =>
    rw [e] at h
    exact h
theorem de_one {op} (h : PE X a (dE G W fa)) : PE X (.BoolOp op [a] pos) (dE G W fa) := pe_one h
theorem de_and (ha : PE X a (dE G W fa)) (hb : PE X (.BoolOp .And (b :: rest) pos) (dE G W fb)) : PE X (.BoolOp .And (a :: b :: rest) pos) (dE G W (eAnd fa fb)) := PE.imp (pe_and ha hb) fun σ H Q h => by
  obtain ⟨B, r, ini, h⟩ := h
  refine ⟨B, r, ini, ?_⟩
  unfold eAnd at h
  cases ea : fa r with
  | ok p =>
    obtain ⟨r1, t⟩ := p
    rw [ea] at h
    intro v B1 H1 s
    cases t with
    | nd _ _ _ => exact h.elim
    | rf _ => exact h.elim
    | sc u =>
      have ev := s.sc (i := 0) rfl rfl
      subst ev
      cases v with
      | bl c =>
        refine ⟨c, rfl, ?_⟩
        cases c with
        | true =>
          rw [if_pos rfl]
          exact dE_on s h
        | false =>
          rw [if_neg Bool.false_ne_true]
          exact h _ B1 H1 s
      | _ => exact h.elim
  | err r1 c fs =>
    rw [ea] at h
    exact h
  | stuck =>
    rw [ea] at h
    exact h
theorem de_or (ha : PE X a (dE G W fa)) (hb : PE X (.BoolOp .Or (b :: rest) pos) (dE G W fb)) : PE X (.BoolOp .Or (a :: b :: rest) pos) (dE G W (eOr fa fb)) := PE.imp (pe_or ha hb) fun σ H Q h => by
  obtain ⟨B, r, ini, h⟩ := h
  refine ⟨B, r, ini, ?_⟩
  unfold eOr at h
  cases ea : fa r with
  | ok p =>
    obtain ⟨r1, t⟩ := p
    rw [ea] at h
    intro v B1 H1 s
    cases t with
    | nd _ _ _ => exact h.elim
    | rf _ => exact h.elim
    | sc u =>
      have ev := s.sc (i := 0) rfl rfl
      subst ev
      cases v with
      | bl c =>
        refine ⟨c, rfl, ?_⟩
        cases c with
        | false =>
          rw [if_neg Bool.false_ne_true]
          exact dE_on s h
        | true =>
          rw [if_pos rfl]
          exact h _ B1 H1 s
      | _ => exact h.elim
  | err r1 c fs =>
    rw [ea] at h
    exact h
  | stuck =>
    rw [ea] at h
    exact h
theorem de_not (ha : PE X a (dE G W fa)) : PE X (.UnaryOp .Not a pos) (dE G W (eNot fa)) := PE.imp (pe_not ha) fun σ H Q h => un_w (q := fun x H1 Q => ∃ c, x = .bl c ∧ Q (.bl (!c)) H1) (fun σ Q B H r B1 H1 r1 v t s h => by
  cases t with
  | nd _ _ _ => exact h.elim
  | rf _ => exact h.elim
  | sc u =>
    have ev := s.sc (i := 0) rfl rfl
    subst ev
    cases v with
    | bl c => exact ⟨c, rfl, h _ _ _ (s.put rfl)⟩
    | _ => exact h.elim) σ H Q h
theorem de_if {c : Expr} (hc : PT X c (dT G W fc)) (ha : PE X a (dE G W fa)) (hb : PE X b (dE G W fb)) : PE X (.IfExp c a b pos) (dE G W (eIf fc fa fb)) := PE.imp (pe_ifExp hc ha hb) fun σ H Q h => by
  obtain ⟨B, r, ini, h⟩ := h
  refine ⟨B, r, ini, ?_⟩
  unfold eIf at h
  cases ec : fc r with
  | ok p =>
    obtain ⟨r1, t⟩ := p
    rw [ec] at h
    intro B1 H1 s
    cases t with
    | true =>
      rw [if_pos rfl]
      exact dE_on s h
    | false =>
      rw [if_neg Bool.false_ne_true]
      exact dE_on s h
  | err r1 c fs =>
    rw [ec] at h
    exact h
  | stuck =>
    rw [ec] at h
    exact h
end

/-! ### ints, texts, lists, tuples by operators -/
theorem vI {G : Gm} {B H B1 H1 : Hp} {σ : L2.St} {r r1 : Env} {v : V} {t : T} {i : Int} (s : ES G B H σ r B1 H1 r1 [v] [t]) (h : pk r1 t = .sc (.int i)) : v = .int i := s.pkd (i := 0) rfl rfl h
section
variable {G : Gm} {W : WX} {X : Cx}
def gAdd (r : Env) (t u : T) : Res (Env × T) := match pk r t, pk r u with
  | .sc (.int i), .sc (.int j) => .ok (r, .sc (.int (i + j)))
  | .sc (.str i), .sc (.str j) => if i.length + j.length ≤ sizeLine then .ok (r, .sc (.str (i ++ j))) else .stuck
  | .nd _ .lst xs, .nd _ .lst ys => if xs.length + ys.length ≤ sizeLine then .ok (r, .nd .ow .lst (xs ++ ys)) else .stuck
  | .nd _ .tup xs, .nd _ .tup ys => if xs.length + ys.length ≤ sizeLine then .ok (r, .nd .sh .tup (xs ++ ys)) else .stuck
  | _, _ => .stuck
def rAddA (K : PySem.W.Frag) : R2 := fun x y H Q => rI0 (fun i j => .int (i + j)) x y H Q ∨ ((∃ i j, x = .str i ∧ y = .str j ∧ i.length + j.length ≤ sizeLine ∧ Q (.str (i ++ j)) H) ∨ (rCat x y H Q ∨ rCatA K x y H Q))
theorem op_addA : OpR X (binaryOp .Add) (rAddA X.K) := op_add.or (op_add_str.or (op_cat.or op_catA))
theorem tup_len {G : Gm} {K : PySem.W.Frag} {B H : Hp} {a : Addr} {ws : List V} {xs : List T} (hx : SRepL G B ws xs) : ws.length = xs.length := hx.length
theorem o_add (hK : G.K = X.K) : Op2 G W (rAddA X.K) gAdd := fun σ Q B H r B1 H1 r1 v1 v2 t1 t2 s h => by
  unfold gAdd at h
  split at h
  · rename_i i j h1 h2
    exact .inl ⟨i, j, s.pkd (i := 0) rfl rfl h1, s.pkd (i := 1) rfl rfl h2, h _ _ _ (s.put rfl)⟩
  · rename_i i j h1 h2
    split at h
    · rename_i l
      exact .inr (.inl ⟨i, j, s.pkd (i := 0) rfl rfl h1, s.pkd (i := 1) rfl rfl h2, l, h _ _ _ (s.put rfl)⟩)
    · exact h.elim
  · rename_i f1 xs f2 ys h1 h2
    split at h
    · rename_i l
      obtain ⟨a, ws, e1, ha, hx⟩ := s.rd (i := 0) rfl rfl h1
      obtain ⟨b, zs, e2, hb, hy⟩ := s.rd (i := 1) rfl rfl h2
      exact .inr (.inr (.inl ⟨a, b, ws, zs, e1, e2, ha, hb, by rw [hx.length, hy.length]; exact l, fun p hp => h _ _ _ (s.newo hp (hx.append hy))⟩))
    · exact h.elim
  · rename_i f1 xs f2 ys h1 h2
    split at h
    · rename_i l
      obtain ⟨a, ws, e1, ha, hx⟩ := s.rd (i := 0) rfl rfl h1
      obtain ⟨b, zs, e2, hb, hy⟩ := s.rd (i := 1) rfl rfl h2
      have old : ∀ {i : Nat} {v : V} {t : T} {f : Fl} {k : List T}, [v1, v2][i]? = some v → [t1, t2][i]? = some t → pk r1 t = .nd f .tup k → SRep G B1 v (.nd .sh .tup k) := fun {i v t f k} g1 g2 g3 => by
        cases t with
        | sc _ => cases g3
        | nd f' k' xs' =>
          cases g3
          have rp : (if owf f then ∃ a vs, v = .ref a ∧ B1 a = none ∧ OwC G H1 a vs .tup ∧ SRepL G B1 vs k else SRep G B1 v (.nd f .tup k)) := s.rep g1 g2
          by_cases q : owf f = true
          · rw [if_pos q] at rp
            obtain ⟨_, _, _, _, z, _⟩ := rp
            exact z.elim
          · rw [if_neg q] at rp
            cases f <;> first | exact rp | cases q rfl
        | rf j =>
          obtain ⟨f1, k1, xs1, h3⟩ := s.rep g1 g2
          have lt : j < (zl σ r).length := s.es.rn _ (prs_mem g1 g2) j rfl
          rw [List.getElem?_append_left (by rw [s.es.len]; exact lt)] at h3
          have h4 := (zl_get h3).2
          unfold pk at g3
          simp only [h4] at g3
          cases g3
          have rp : (if owf f then ∃ a vs, v = .ref a ∧ B1 a = none ∧ OwC G H1 a vs .tup ∧ SRepL G B1 vs k else SRep G B1 v (.nd f .tup k)) := s.init.st.rep _ (List.mem_of_getElem? h3)
          by_cases q : owf f = true
          · rw [if_pos q] at rp
            obtain ⟨_, _, _, _, z, _⟩ := rp
            exact z.elim
          · rw [if_neg q] at rp
            cases f <;> first | exact rp | cases q rfl
      have r1' := old (i := 0) rfl rfl h1
      have r2' := old (i := 1) rfl rfl h2
      have lx := hx.length
      have ly := hy.length
      refine .inr (.inr (.inr ⟨a, b, ws, zs, e1, e2, hK ▸ ha, hK ▸ hb, by rw [lx, ly]; exact l, fun e => ?_, fun _ e => ?_, fun _ _ p hp => ?_⟩))
      · have ex : xs = [] := by
          subst e
          cases xs with
          | nil => rfl
          | cons _ _ => cases lx
        subst ex
        rw [← e2]
        exact h _ _ _ (s.put r2')
      · have ey : ys = [] := by
          subst e
          cases ys with
          | nil => rfl
          | cons _ _ => cases ly
        subst ey
        rw [← e1]
        rw [List.append_nil] at h
        exact h _ _ _ (s.put r1')
      · have nw := s.news (o := .tup (ws ++ zs)) hp
        have sB : Same B1 (upd B1 p (.tup (ws ++ zs))) := fun b u e => by
          rw [upd_ne (ne_of_none e (s.init.st.free hp).1)]
          exact e
        exact h _ _ _ (nw.put ⟨rfl, p, _, rfl, SqT.of upd_same, SRepL.mono sB _ _ (hx.append hy)⟩)
    · exact h.elim
  · exact h.elim
end
end PD
end PartPD8

section PartPD9
set_option Elab.async false
set_option linter.all false
set_option maxRecDepth 100000
set_option maxHeartbeats 4000000
namespace PD
open PySem PySem.Spec PyProof.Rows L2

/-! ### more operators -/
/-- two ints -/
def gII (g : Int → Int → Option V) : Env → T → T → Res (Env × T) := fun r t u => match t, u with
  | .sc (.int i), .sc (.int j) => (match g i j with
    | some v => .ok (r, .sc v)
    | none => .stuck)
  | _, _ => .stuck
section
variable {G : Gm} {W : WX} {X : Cx}
theorem o_II {C : Int → Int → Prop} {g : Int → Int → V} {k : Int → Int → Option V} (hk : ∀ i j v, k i j = some v → C i j ∧ g i j = v) : Op2 G W (rI C g) (gII k) := fun σ Q B H r B1 H1 r1 v1 v2 t1 t2 s h => by
  unfold gII at h
  split at h
  · rename_i i j
    have e1 := s.sc (i := 0) rfl rfl
    have e2 := s.sc (i := 1) rfl rfl
    subst e1 e2
    cases e : k i j with
    | none =>
      rw [e] at h
      exact h.elim
    | some v =>
      rw [e] at h
      obtain ⟨c, eg⟩ := hk i j v e
      subst eg
      exact ⟨i, j, rfl, rfl, c, h _ _ _ (s.put rfl)⟩
  · exact h.elim
theorem o_II0 {g : Int → Int → V} : Op2 G W (rI0 g) (gII fun i j => some (g i j)) := fun σ Q B H r B1 H1 r1 v1 v2 t1 t2 s h => by
  unfold gII at h
  split at h
  · rename_i i j
    have e1 := s.sc (i := 0) rfl rfl
    have e2 := s.sc (i := 1) rfl rfl
    subst e1 e2
    exact ⟨i, j, rfl, rfl, h _ _ _ (s.put rfl)⟩
  · exact h.elim
/-! sizes of ints -/
def bitsOf (i : Int) : Nat := Builtin.Int.intBits i
def mulOk (i j : Int) : Bool := decide (bitsOf i + bitsOf j ≤ 134217728)
def divOk (i j : Int) : Bool := j != 0 && !(Builtin.divisionGoesByPylong i j)
def powOk (i j : Int) : Bool := decide (0 ≤ j) && decide ((bitsOf i : Int) * j ≤ 134217728)
def cSub : Int → Int → Option V := fun i j => some (.int (i - j))
def cDiv : Int → Int → Option V := fun i j => if divOk i j then some (.int (i.fdiv j)) else none
def cMod : Int → Int → Option V := fun i j => if j != 0 then some (.int (i.fmod j)) else none
def cPow : Int → Int → Option V := fun i j => if powOk i j then some (.int (i ^ j.toNat)) else none
def cShl : Int → Int → Option V := fun i j => if decide (0 ≤ j) && decide ((bitsOf i : Int) + j ≤ 134217728) then some (.int (i * 2 ^ j.toNat)) else none
def cShr : Int → Int → Option V := fun i j => if decide (0 ≤ j) then some (.int (i / 2 ^ j.toNat)) else none
def cLt : Int → Int → Option V := fun i j => some (.bl (decide (i < j)))
def cLe : Int → Int → Option V := fun i j => some (.bl (decide (i ≤ j)))
def cGt : Int → Int → Option V := fun i j => some (.bl (decide (j < i)))
def cGe : Int → Int → Option V := fun i j => some (.bl (decide (j ≤ i)))
theorem op_divA : OpR X (binaryOp .FloorDiv) (rI (fun i j => j ≠ 0 ∧ Builtin.divisionGoesByPylong i j = false) fun i j => .int (i.fdiv j)) := opI fun _ _ _ _ _ _ _ hc q => floordiv_int hc.1 q (.inl hc.2)
theorem op_powA : OpR X (binaryOp .Pow) (rI (fun i j => 0 ≤ j ∧ (Builtin.Int.intBits i : Int) * j ≤ 2 ^ 27) fun i j => .int (i ^ j.toNat)) := opI fun _ _ _ _ _ _ _ hc q => pow_int hc.1 hc.2 q
theorem o_sub : Op2 G W (rI0 fun i j => .int (i - j)) (gII cSub) := o_II0
theorem o_lt : Op2 G W (rI0 fun i j => .bl (decide (i < j))) (gII cLt) := o_II0
theorem o_le : Op2 G W (rI0 fun i j => .bl (decide (i ≤ j))) (gII cLe) := o_II0
theorem o_gt : Op2 G W (rI0 fun i j => .bl (decide (j < i))) (gII cGt) := o_II0
theorem o_ge : Op2 G W (rI0 fun i j => .bl (decide (j ≤ i))) (gII cGe) := o_II0
theorem o_div : Op2 G W (rI (fun i j => j ≠ 0 ∧ Builtin.divisionGoesByPylong i j = false) fun i j => .int (i.fdiv j)) (gII cDiv) := o_II fun i j v h => by
  unfold cDiv divOk at h
  split at h
  · rename_i c
    cases h
    obtain ⟨c1, c2⟩ := Bool.and_eq_true_iff.mp c
    exact ⟨⟨bne_iff_ne.mp c1, by simpa using c2⟩, rfl⟩
  · cases h
theorem o_mod : Op2 G W (rI (fun _ j => j ≠ 0) fun i j => .int (i.fmod j)) (gII cMod) := o_II fun i j v h => by
  unfold cMod at h
  split at h
  · rename_i c
    cases h
    exact ⟨bne_iff_ne.mp c, rfl⟩
  · cases h
theorem o_pow : Op2 G W (rI (fun i j => 0 ≤ j ∧ (Builtin.Int.intBits i : Int) * j ≤ 2 ^ 27) fun i j => .int (i ^ j.toNat)) (gII cPow) := o_II fun i j v h => by
  unfold cPow powOk at h
  split at h
  · rename_i c
    cases h
    obtain ⟨c1, c2⟩ := Bool.and_eq_true_iff.mp c
    exact ⟨⟨of_decide_eq_true c1, of_decide_eq_true c2⟩, rfl⟩
  · cases h
theorem o_shl : Op2 G W (rI CShl fun i j => .int (i * 2 ^ j.toNat)) (gII cShl) := o_II fun i j v h => by
  unfold cShl at h
  split at h
  · rename_i c
    cases h
    obtain ⟨c1, c2⟩ := Bool.and_eq_true_iff.mp c
    exact ⟨⟨of_decide_eq_true c1, of_decide_eq_true c2⟩, rfl⟩
  · cases h
theorem o_shr : Op2 G W (rI (fun _ j => 0 ≤ j) fun i j => .int (i / 2 ^ j.toNat)) (gII cShr) := o_II fun i j v h => by
  unfold cShr at h
  split at h
  · rename_i c
    cases h
    exact ⟨of_decide_eq_true c, rfl⟩
  · cases h
def gMul (r : Env) (t u : T) : Res (Env × T) := match pk r t, pk r u with
  | .sc (.int i), .sc (.int j) => if mulOk i j then .ok (r, .sc (.int (i * j))) else .stuck
  | .nd _ .lst xs, .sc (.int k) => if decide (0 ≤ k) && decide (k < 16777216) && decide (xs.length * k.toNat ≤ sizeLine) then .ok (r, .nd .ow .lst (List.replicate k.toNat xs).flatten) else .stuck
  | _, _ => .stuck
def rMulA : R2 := fun x y H Q => rI CMulX (fun i j => .int (i * j)) x y H Q ∨ rRep x y H Q
theorem op_mulA : OpR X (binaryOp .Mult) rMulA := op_mulX.or op_rep
theorem SRepL.rep {B : Hp} {ws : List V} {xs : List T} (h : SRepL G B ws xs) : ∀ k : Nat, SRepL G B (List.replicate k ws).flatten (List.replicate k xs).flatten
  | 0 => trivial
  | k + 1 => by
    rw [List.replicate_succ, List.replicate_succ, List.flatten_cons, List.flatten_cons]
    exact h.append (h.rep k)
theorem o_mul : Op2 G W rMulA gMul := fun σ Q B H r B1 H1 r1 v1 v2 t1 t2 s h => by
  unfold gMul at h
  split at h
  · rename_i i j h1 h2
    split at h
    · rename_i c
      refine .inl ⟨i, j, s.pkd (i := 0) rfl rfl h1, s.pkd (i := 1) rfl rfl h2, ?_, h _ _ _ (s.put rfl)⟩
      have := of_decide_eq_true c
      unfold CMulX
      unfold bitsOf at this
      omega
    · exact h.elim
  · rename_i f xs k h1 h2
    split at h
    · rename_i c
      obtain ⟨c12, c3⟩ := Bool.and_eq_true_iff.mp c
      obtain ⟨c1, c2⟩ := Bool.and_eq_true_iff.mp c12
      have c1 := of_decide_eq_true c1
      have c2 := of_decide_eq_true c2
      have c3 := of_decide_eq_true c3
      obtain ⟨a, ws, e1, ha, hx⟩ := s.rd (i := 0) rfl rfl h1
      exact .inr ⟨a, k, ws, e1, s.pkd (i := 1) rfl rfl h2, ha, by omega, by omega, by rw [hx.length]; exact c3, fun p hp => h _ _ _ (s.newo hp (hx.rep _))⟩
    · exact h.elim
  · exact h.elim
/-! unary -/
def gNeg : Env → T → Res (Env × T) := fun r t => match t with
  | .sc (.int i) => .ok (r, .sc (.int (-i)))
  | _ => .stuck
theorem o_neg : Op1 G W (rU fun i => .int (-i)) gNeg := fun σ Q B H r B1 H1 r1 v1 t1 s h => by
  unfold gNeg at h
  split at h
  · rename_i i
    have e := s.sc (i := 0) rfl rfl
    subst e
    exact ⟨i, rfl, h _ _ _ (s.put rfl)⟩
  · exact h.elim
/-! == -/
mutual
def dat : T → Option PyData
  | .sc .non => some .none
  | .sc (.bl b) => some (.bool b)
  | .sc (.int i) => some (.int i)
  | .sc (.str x) => some (.str x)
  | .sc _ => none
  | .nd _ .lst xs => (datL xs).map .list
  | .nd _ .fro xs => (datL xs).map .list
  | .nd _ .tup xs => (datL xs).map .tuple
  | .nd _ (.ins _) _ => none
  | .rf _ => none
def datL : List T → Option (List PyData)
  | [] => some []
  | x :: xs => (match dat x, datL xs with
    | some d, some ds => some (d :: ds)
    | _, _ => none)
end
mutual
theorem dat_ok {B H : Hp} (sub : Same B H) (hK : G.K = X.K) : ∀ (t : T) (v : V) (d : PyData), SRep G B v t → dat t = some d → Dp X.K H v d
  | .sc u, v, d, h, e => by
    cases h
    cases u <;> cases e
    · exact .non
    · exact .bl _
    · exact .int _
    · exact .str _
  | .nd f k xs, v, d, h, e => by
    obtain ⟨_, a, ws, rfl, h2, h3⟩ := h
    cases k with
    | lst =>
      have e' : (datL xs).map PyData.list = some d := e
      cases e2 : datL xs with
      | none =>
        rw [e2] at e'
        cases e'
      | some ds =>
        rw [e2] at e'
        cases e'
        exact .lst (SqL.of (sub _ _ h2)) (datL_ok sub hK xs ws ds h3 e2)
    | fro =>
      have e' : (datL xs).map PyData.list = some d := e
      cases e2 : datL xs with
      | none =>
        rw [e2] at e'
        cases e'
      | some ds =>
        rw [e2] at e'
        cases e'
        exact .lst (hK ▸ Same.seq sub h2) (datL_ok sub hK xs ws ds h3 e2)
    | tup =>
      have e' : (datL xs).map PyData.tuple = some d := e
      cases e2 : datL xs with
      | none =>
        rw [e2] at e'
        cases e'
      | some ds =>
        rw [e2] at e'
        cases e'
        exact .tup (hK ▸ sqT_mono sub h2) (datL_ok sub hK xs ws ds h3 e2)
    | ins c => cases e
  | .rf _, _, _, h, _ => h.elim
theorem datL_ok {B H : Hp} (sub : Same B H) (hK : G.K = X.K) : ∀ (ts : List T) (vs : List V) (ds : List PyData), SRepL G B vs ts → datL ts = some ds → DpAll X.K H vs ds
  | [], vs, ds, h, e => by
    cases e
    cases vs with
    | nil => exact .nil
    | cons _ _ => exact h.elim
  | t :: ts, vs, ds, h, e => by
    cases vs with
    | nil => exact h.elim
    | cons v vs =>
      unfold datL at e
      cases e1 : dat t with
      | none =>
        rw [e1] at e
        cases e
      | some d =>
        cases e2 : datL ts with
        | none =>
          rw [e1, e2] at e
          cases e
        | some ds' =>
          rw [e1, e2] at e
          cases e
          exact .cons (dat_ok sub hK t v d h.1 e1) (datL_ok sub hK ts vs ds' h.2 e2)
end
theorem dat_es {B H B1 H1 : Hp} {σ : L2.St} {r r1 : Env} {vs : List V} {ts : List T} (hK : G.K = X.K) (s : ES G B H σ r B1 H1 r1 vs ts) {i : Nat} {v : V} {t : T} {d : PyData} (h1 : vs[i]? = some v) (h2 : ts[i]? = some t) (e : dat (pk r1 t) = some d) : Dp X.K H1 v d := by
  have sub := s.es.stp.st.sub
  cases hp : pk r1 t with
  | sc u =>
    rw [hp] at e
    exact dat_ok (B := B1) sub hK (.sc u) v d (s.pkd h1 h2 hp) e
  | rf j =>
    rw [hp] at e
    cases e
  | nd f k xs =>
    rw [hp] at e
    obtain ⟨a, ws, rfl, h3, h4⟩ := s.rd h1 h2 hp
    cases k with
    | lst =>
      have e' : (datL xs).map PyData.list = some d := e
      cases e2 : datL xs with
      | none =>
        rw [e2] at e'
        cases e'
      | some ds =>
        rw [e2] at e'
        cases e'
        exact .lst (SqL.of h3) (datL_ok sub hK xs ws ds h4 e2)
    | fro =>
      have e' : (datL xs).map PyData.list = some d := e
      cases e2 : datL xs with
      | none =>
        rw [e2] at e'
        cases e'
      | some ds =>
        rw [e2] at e'
        cases e'
        exact .lst (hK ▸ h3) (datL_ok sub hK xs ws ds h4 e2)
    | tup =>
      have e' : (datL xs).map PyData.tuple = some d := e
      cases e2 : datL xs with
      | none =>
        rw [e2] at e'
        cases e'
      | some ds =>
        rw [e2] at e'
        cases e'
        exact .tup (hK ▸ h3) (datL_ok sub hK xs ws ds h4 e2)
    | ins c => cases e
/-- ==: two plain values | two trees -/
def eqT (r : Env) (t u : T) : Option Bool := match pk r t, pk r u with
  | .sc a, .sc b => if scal a b then some (decide (a = b)) else none
  | a, b => (match dat a, dat b with
    | some d, some e => if SeqAt.shaped d && SeqAt.shaped e then some (PyData.eqv d e) else none
    | _, _ => none)
def gEq (r : Env) (t u : T) : Res (Env × T) := match eqT r t u with
  | some b => .ok (r, .sc (.bl b))
  | none => .stuck
def gNe (r : Env) (t u : T) : Res (Env × T) := match eqT r t u with
  | some b => .ok (r, .sc (.bl (!b)))
  | none => .stuck
def rEqA (K : PySem.W.Frag) : R2 := fun x y H Q => rEq x y H Q ∨ rEqD K x y H Q
def rNeA (K : PySem.W.Frag) : R2 := fun x y H Q => rNe x y H Q ∨ rNeD K x y H Q
theorem op_eqA (hu : X.A.units + 64 < cLine) : OpR X (compareOp .Eq) (rEqA X.K) := op_eq.or (op_eqD hu)
theorem op_neA (hu : X.A.units + 64 < cLine) : OpR X (compareOp .NotEq) (rNeA X.K) := op_ne.or (op_neD hu)
theorem eqT_ok {B H B1 H1 : Hp} {σ : L2.St} {r r1 : Env} {v1 v2 : V} {t1 t2 : T} {b : Bool} (hK : G.K = X.K) (s : ES G B H σ r B1 H1 r1 [v1, v2] [t1, t2]) (e : eqT r1 t1 t2 = some b) :
    (scal v1 v2 = true ∧ decide (v1 = v2) = b) ∨ ∃ d e', Dp X.K H1 v1 d ∧ Dp X.K H1 v2 e' ∧ SeqAt.shaped d = true ∧ SeqAt.shaped e' = true ∧ PyData.eqv d e' = b := by
  unfold eqT at e
  split at e
  · rename_i a c h1 h2
    have e1 := s.pkd (i := 0) rfl rfl h1
    have e2 := s.pkd (i := 1) rfl rfl h2
    subst e1 e2
    split at e
    · rename_i q
      exact .inl ⟨q, Option.some.inj e⟩
    · cases e
  · cases d1 : dat (pk r1 t1) with
    | none =>
      rw [d1] at e
      cases e
    | some d =>
      cases d2 : dat (pk r1 t2) with
      | none =>
        rw [d1, d2] at e
        cases e
      | some d' =>
        rw [d1, d2] at e
        have e' : (if SeqAt.shaped d && SeqAt.shaped d' then some (PyData.eqv d d') else none) = some b := e
        split at e'
        · rename_i q
          obtain ⟨q1, q2⟩ := Bool.and_eq_true_iff.mp q
          exact .inr ⟨d, d', dat_es hK s (i := 0) rfl rfl d1, dat_es hK s (i := 1) rfl rfl d2, q1, q2, Option.some.inj e'⟩
        · cases e'
theorem o_eq (hK : G.K = X.K) : Op2 G W (rEqA X.K) gEq := fun σ Q B H r B1 H1 r1 v1 v2 t1 t2 s h => by
  unfold gEq at h
  split at h
  · rename_i b e
    rcases eqT_ok hK s e with ⟨q, eb⟩ | ⟨d, d', h1, h2, h3, h4, eb⟩
    · exact .inl ⟨q, by rw [eb]; exact h _ _ _ (s.put rfl)⟩
    · exact .inr ⟨d, d', h1, h2, h3, h4, by rw [eb]; exact h _ _ _ (s.put rfl)⟩
  · exact h.elim
theorem o_ne (hK : G.K = X.K) : Op2 G W (rNeA X.K) gNe := fun σ Q B H r B1 H1 r1 v1 v2 t1 t2 s h => by
  unfold gNe at h
  split at h
  · rename_i b e
    rcases eqT_ok hK s e with ⟨q, eb⟩ | ⟨d, d', h1, h2, h3, h4, eb⟩
    · exact .inl ⟨q, by rw [eb]; exact h _ _ _ (s.put rfl)⟩
    · exact .inr ⟨d, d', h1, h2, h3, h4, by rw [eb]; exact h _ _ _ (s.put rfl)⟩
  · exact h.elim
/-! is None -/
def gIsN (r : Env) (t u : T) : Res (Env × T) := match pk r t, u with
  | .sc a, .sc .non => .ok (r, .sc (.bl (decide (a = .non))))
  | .nd _ _ _, .sc .non => .ok (r, .sc (.bl false))
  | _, _ => .stuck
def gNotN (r : Env) (t u : T) : Res (Env × T) := match pk r t, u with
  | .sc a, .sc .non => .ok (r, .sc (.bl (!decide (a = .non))))
  | .nd _ _ _, .sc .non => .ok (r, .sc (.bl true))
  | _, _ => .stuck
theorem o_isN : Op2 G W (fun x y H Q => y = .non ∧ Q (.bl (decide (x = .non))) H) gIsN := fun σ Q B H r B1 H1 r1 v1 v2 t1 t2 s h => by
  unfold gIsN at h
  split at h
  · rename_i a h1
    have e1 := s.pkd (i := 0) rfl rfl h1
    subst e1
    exact ⟨s.sc (i := 1) rfl rfl, h _ _ _ (s.put rfl)⟩
  · rename_i f k xs h1
    obtain ⟨a, ws, rfl, _⟩ := s.rd (i := 0) rfl rfl h1
    exact ⟨s.sc (i := 1) rfl rfl, h _ _ _ (s.put rfl)⟩
  · exact h.elim
theorem o_notN : Op2 G W (fun x y H Q => y = .non ∧ Q (.bl (!decide (x = .non))) H) gNotN := fun σ Q B H r B1 H1 r1 v1 v2 t1 t2 s h => by
  unfold gNotN at h
  split at h
  · rename_i a h1
    have e1 := s.pkd (i := 0) rfl rfl h1
    subst e1
    exact ⟨s.sc (i := 1) rfl rfl, h _ _ _ (s.put rfl)⟩
  · rename_i f k xs h1
    obtain ⟨a, ws, rfl, _⟩ := s.rd (i := 0) rfl rfl h1
    exact ⟨s.sc (i := 1) rfl rfl, h _ _ _ (s.put rfl)⟩
  · exact h.elim
end
end PD
end PartPD9

section PartPDA
set_option Elab.async false
set_option linter.all false
set_option maxRecDepth 100000
set_option maxHeartbeats 4000000
namespace PD
open PySem PySem.Spec PyProof.Rows L2

/-! ### displays -/
def isSh : T → Bool
  | .sc _ => true
  | .nd .sh _ _ => true
  | _ => false
def kTup (r : Env) (ts : List T) : Res (Env × T) := if ts.all isSh && decide (ts.length ≤ 100000) then .ok (r, .nd .sh .tup ts) else .stuck
def kLst (r : Env) (ts : List T) : Res (Env × T) := if ts.all isSh && decide (ts.length ≤ 100000) then .ok (r, .nd .ow .lst ts) else .stuck
section
variable {G : Gm} {W : WX} {X : Cx} {B H B1 H1 : Hp} {σ : L2.St} {r r1 : Env} {vs : List V} {ts : List T}
theorem Rep.sh {L : List Ent} {v : V} {t : T} (h : Rep G B H L v t) (q : isSh t = true) : SRep G B v t := by
  cases t with
  | sc u => exact h
  | nd f k xs => cases f <;> first | exact h | cases q
  | rf i => cases q
theorem ES.shs (s : ES G B H σ r B1 H1 r1 vs ts) (h : ts.all isSh = true) : SRepL G B1 vs ts := by
  have key : ∀ (vs : List V) (ts : List T), vs.length = ts.length → (∀ (i : Nat) v t, vs[i]? = some v → ts[i]? = some t → SRep G B1 v t) → SRepL G B1 vs ts := by
    intro vs
    induction vs with
    | nil =>
      intro ts l _
      cases ts with
      | nil => trivial
      | cons _ _ => cases l
    | cons v vs ih =>
      intro ts l f
      cases ts with
      | nil => cases l
      | cons t ts => exact ⟨f 0 v t rfl rfl, ih ts (by simpa using l) fun i v t h1 h2 => f (i + 1) v t (by simpa using h1) (by simpa using h2)⟩
  exact key vs ts s.lv fun i v t h1 h2 => (s.rep h1 h2).sh (List.all_eq_true.mp h t (List.mem_of_getElem? h2))
theorem sz5 {n : Nat} (h : n ≤ 100000) : n ≤ sizeLine := by
  rw [sizeLine_eq]
  omega
theorem de_tup {es : List Expr} {x1} {pos : Pos} {fa : XA} (ha : PA X es (dA G W fa)) : PE X (.Tuple es x1 pos) (dE G W (onA fa kTup)) := PE.imp (pe_tup ha) fun σ H Q h => onA_w (q := fun xs H1 Q => xs.length ≤ sizeLine ∧ ∀ p, H1 p = none → Q (.ref p) (upd H1 p (.tup xs))) (fun σ Q B H r B1 H1 r1 vs ts s h => by
  unfold kTup at h
  split at h
  · rename_i c
    obtain ⟨c1, c2⟩ := Bool.and_eq_true_iff.mp c
    have hs := s.shs c1
    refine ⟨by rw [hs.length]; exact sz5 (of_decide_eq_true c2), fun p hp => ?_⟩
    have sB : Same B1 (upd B1 p (.tup vs)) := fun b u e => by
      rw [upd_ne (ne_of_none e (s.init.st.free hp).1)]
      exact e
    exact h _ _ _ ((s.news (o := .tup vs) hp).put ⟨rfl, p, vs, rfl, SqT.of upd_same, SRepL.mono sB _ _ hs⟩)
  · exact h.elim) σ H Q h
theorem de_lst {es : List Expr} {pos : Pos} {fa : XA} (ha : PA X es (dA G W fa)) : PE X (.List es pos) (dE G W (onA fa kLst)) := PE.imp (pe_lst ha) fun σ H Q h => onA_w (q := fun xs H1 Q => xs.length ≤ sizeLine ∧ ∀ p, H1 p = none → Q (.ref p) (upd H1 p (.lst xs))) (fun σ Q B H r B1 H1 r1 vs ts s h => by
  unfold kLst at h
  split at h
  · rename_i c
    obtain ⟨c1, c2⟩ := Bool.and_eq_true_iff.mp c
    have hs := s.shs c1
    exact ⟨by rw [hs.length]; exact sz5 (of_decide_eq_true c2), fun p hp => h _ _ _ (s.newo hp hs)⟩
  · exact h.elim) σ H Q h
/-! ### items -/
theorem SRepL.atI : ∀ {ws : List V} {xs : List T} {i : Int} {t : T}, SRepL G B ws xs → L2.atI xs i = some t → ∃ v, L2.atI ws i = some v ∧ SRep G B v t := fun {ws xs i t} h e => by
  unfold L2.atI at e ⊢
  rw [h.length]
  cases q : ixN xs.length i with
  | none =>
    rw [q] at e
    cases e
  | some j =>
    rw [q] at e
    exact h.get e
def gIx (r : Env) (t u : T) : Res (Env × T) := match pk r t, u with
  | .nd _ .lst xs, .sc (.int i) => (match L2.atI xs i with
    | some x => .ok (r, x)
    | none => .stuck)
  | .nd _ .fro xs, .sc (.int i) => (match L2.atI xs i with
    | some x => .ok (r, x)
    | none => .stuck)
  | .nd _ .tup xs, .sc (.int i) => (match L2.atI xs i with
    | some x => .ok (r, x)
    | none => .stuck)
  | .sc (.str z), .sc (.int i) => if z.length ≤ sizeLine then (match L2.atI z.cps.toList i with
    | some c => .ok (r, .sc (.str ⟨#[c]⟩))
    | none => .stuck) else .stuck
  | _, _ => .stuck
theorem de_ix {a b : Expr} {pos : Pos} {fa fb : XE} (hK : G.K = X.K) (ha : PE X a (dE G W fa)) (hb : PE X b (dE G W fb)) (hs : PlainIx b := by exact fun _ _ => rfl) : PE X (.Subscript a b pos) (dE G W (bin fa fb gIx)) :=
  PE.imp (pe_ix ix_seq ha hb hs) fun σ H Q h => bin_w (q := rIx X.K) (fun σ Q B H r B1 H1 r1 v1 v2 t1 t2 s h => by
  unfold gIx at h
  split at h
  · rename_i f xs i h1
    split at h
    · rename_i x e
      obtain ⟨a, ws, rfl, ha, hx⟩ := s.rd (i := 0) rfl rfl h1
      obtain ⟨v, e2, hv⟩ := hx.atI e
      exact .inl ⟨a, ws, i, v, rfl, s.sc (i := 1) rfl rfl, SqL.of ha, e2, h _ _ _ (s.put hv)⟩
    · exact h.elim
  · rename_i f xs i h1
    split at h
    · rename_i x e
      obtain ⟨a, ws, rfl, ha, hx⟩ := s.rd (i := 0) rfl rfl h1
      obtain ⟨v, e2, hv⟩ := hx.atI e
      exact .inl ⟨a, ws, i, v, rfl, s.sc (i := 1) rfl rfl, hK ▸ ha, e2, h _ _ _ (s.put hv)⟩
    · exact h.elim
  · rename_i f xs i h1
    split at h
    · rename_i x e
      obtain ⟨a, ws, rfl, ha, hx⟩ := s.rd (i := 0) rfl rfl h1
      obtain ⟨v, e2, hv⟩ := hx.atI e
      exact .inr (.inl ⟨a, ws, i, v, rfl, s.sc (i := 1) rfl rfl, hK ▸ ha, e2, h _ _ _ (s.put hv)⟩)
    · exact h.elim
  · rename_i z i h1
    split at h
    · rename_i l
      split at h
      · rename_i c e
        exact .inr (.inr ⟨z, i, c, s.pkd (i := 0) rfl rfl h1, s.sc (i := 1) rfl rfl, l, e, h _ _ _ (s.put rfl)⟩)
      · exact h.elim
    · exact h.elim
  · exact h.elim) σ H Q h
/-! ### slices -/
def cutT {α : Type} (xs : List α) (lo hi : Option Int) : List α := (xs.drop (HT.sIx xs.length 0 lo)).take (HT.sIx xs.length xs.length hi - HT.sIx xs.length 0 lo)
theorem SRepL.cut {ws : List V} {xs : List T} (h : SRepL G B ws xs) (lo hi : Option Int) : SRepL G B (cutV ws lo hi) (cutT xs lo hi) := by
  unfold cutV cutT
  rw [h.length]
  exact (h.drop _).take _
def gSl (r : Env) (t : T) (lo hi : Option Int) : Res (Env × T) := match pk r t with
  | .nd _ .lst xs => .ok (r, .nd .ow .lst (cutT xs lo hi))
  | .nd _ .fro xs => .ok (r, .nd .ow .lst (cutT xs lo hi))
  | .nd .sh .tup xs => .ok (r, .nd .sh .tup (cutT xs lo hi))
  | .sc (.str z) => if z.length ≤ sizeLine then .ok (r, .sc (.str (cutS z lo hi))) else .stuck
  | _ => .stuck
abbrev XO := Env → Res (Env × Option Int)
def oN : XO := fun r => .ok (r, none)
def oE (f : XE) : XO := fun r => match f r with
  | .ok (r1, .sc (.int i)) => .ok (r1, some i)
  | .ok _ => .stuck
  | .err r c fs => .err r c fs
  | .stuck => .stuck
def dOp (G : Gm) (W : WX) (σ : L2.St) (Q : Option Int → Hp → Prop) (B H : Hp) (r : Env) : Res (Env × Option Int) → Prop
  | .ok (r', b) => ∀ B' H', ES G B H σ r B' H' r' [] [] → Q b H'
  | .err r' c fs => wErr G W B H σ r r' c fs
  | .stuck => False
def dO (G : Gm) (W : WX) (f : XO) : L2.TO := fun σ H Q => ∃ B r, Init G B H σ r ∧ dOp G W σ Q B H r (f r)
def eSl (fe : XE) (lo hi : XO) : XE := fun r => match fe r with
  | .ok (r1, t) => (match lo r1 with
    | .ok (r2, a) => (match hi r2 with
      | .ok (r3, b) => gSl r3 t a b
      | .err r c fs => .err r c fs
      | .stuck => .stuck)
    | .err r c fs => .err r c fs
    | .stuck => .stuck)
  | .err r c fs => .err r c fs
  | .stuck => .stuck
theorem PO.imp {o : Option Expr} {t t' : L2.TO} (h : PO X o t) (w : ∀ σ H Q, t' σ H Q → t σ H Q) : PO X o t' := ⟨fun pins s σ H Q I z => h.run pins s σ H Q I (w σ H Q z)⟩
theorem do_none : PO X none (dO G W oN) := PO.imp po_none fun σ H Q h => by
  obtain ⟨B, r, i, h⟩ := h
  exact h B H i.es
theorem do_some {e : Expr} {f : XE} (h : PE X e (dE G W f)) : PO X (some e) (dO G W (oE f)) := PO.imp (po_some h) fun σ H Q h => by
  obtain ⟨B, r, i, h⟩ := h
  refine ⟨B, r, i, ?_⟩
  unfold oE at h
  cases e : f r with
  | ok p =>
    obtain ⟨r1, t⟩ := p
    rw [e] at h
    intro v B1 H1 s
    cases t with
    | nd _ _ _ => exact h.elim
    | rf _ => exact h.elim
    | sc u =>
      have ev := s.sc (i := 0) rfl rfl
      subst ev
      cases v with
      | int i => exact ⟨i, rfl, h B1 H1 s.drop⟩
      | _ => exact h.elim
  | err r1 c fs =>
    rw [e] at h
    exact h
  | stuck =>
    rw [e] at h
    exact h
def rSlAll (K : PySem.W.Frag) : V → Option Int → Option Int → Hp → VK → Prop := fun x lo hi H Q => rSlL K x lo hi H Q ∨ (rSlA K x lo hi H Q ∨ rSlS x lo hi H Q)
theorem sl_all : SlR X (rSlAll X.K) := sl_list.or (sl_tupA.or sl_str)
theorem gSl_w (hK : G.K = X.K) {v : V} {t : T} {lo hi : Option Int} {Q : VK} (s : ES G B H σ r B1 H1 r1 [v] [t]) (h : dEp G W σ Q B H r (gSl r1 t lo hi)) : rSlAll X.K v lo hi H1 Q := by
  unfold gSl at h
  split at h
  · rename_i f xs h1
    obtain ⟨a, ws, rfl, ha, hx⟩ := s.rd (i := 0) rfl rfl h1
    exact .inl ⟨a, ws, rfl, SqL.of ha, fun p hp => h _ _ _ (s.newo hp (hx.cut lo hi))⟩
  · rename_i f xs h1
    obtain ⟨a, ws, rfl, ha, hx⟩ := s.rd (i := 0) rfl rfl h1
    exact .inl ⟨a, ws, rfl, hK ▸ ha, fun p hp => h _ _ _ (s.newo hp (hx.cut lo hi))⟩
  · rename_i xs h1
    obtain ⟨a, ws, rfl, ha, hx⟩ := s.rd (i := 0) rfl rfl h1
    have whole : HT.sIx ws.length 0 lo = 0 → HT.sIx ws.length ws.length hi = ws.length → cutT xs lo hi = xs := fun e1 e2 => by
      unfold cutT
      rw [← hx.length, e1, e2, List.drop_zero, Nat.sub_zero, hx.length, List.take_length]
    refine .inr (.inl ⟨a, ws, rfl, hK ▸ ha, fun e => ?_, fun _ p hp => ?_⟩)
    · rw [whole e.1 e.2] at h
      have old : SRep G B1 (.ref a) (.nd .sh .tup xs) := by
        cases t with
        | sc _ => cases h1
        | nd f' k' xs' =>
          cases h1
          exact s.rep (i := 0) (v := .ref a) (t := .nd .sh .tup xs) rfl rfl
        | rf j =>
          obtain ⟨f1, k1, xs1, h3⟩ := s.rep (i := 0) (v := .ref a) (t := .rf j) rfl rfl
          have lt : j < (zl σ r).length := s.es.rn _ (prs_mem (i := 0) (vs := [V.ref a]) (ts := [T.rf j]) rfl rfl) j rfl
          rw [List.getElem?_append_left (by rw [s.es.len]; exact lt)] at h3
          have h4 := (zl_get h3).2
          unfold pk at h1
          simp only [h4] at h1
          cases h1
          exact s.init.st.rep _ (List.mem_of_getElem? h3)
      exact h _ _ _ (s.put old)
    · have sB : Same B1 (upd B1 p (.tup (cutV ws lo hi))) := fun b u e => by
        rw [upd_ne (ne_of_none e (s.init.st.free hp).1)]
        exact e
      exact h _ _ _ ((s.news (o := .tup (cutV ws lo hi)) hp).put ⟨rfl, p, _, rfl, SqT.of upd_same, SRepL.mono sB _ _ (hx.cut lo hi)⟩)
  · rename_i z h1
    split at h
    · rename_i l
      exact .inr (.inr ⟨z, s.pkd (i := 0) rfl rfl h1, l, h _ _ _ (s.put rfl)⟩)
    · exact h.elim
  · exact h.elim
theorem dO_on {f : XO} {Q : Option Int → Hp → Prop} {R : Res (Env × T) → Prop} {k : Env → Option Int → Res (Env × T)} (s : ES G B H σ r B1 H1 r1 vs ts) {Q' : VK}
    (h : dEp G W σ Q' B H r (match f r1 with
      | .ok (r2, a) => k r2 a
      | .err r c fs => .err r c fs
      | .stuck => .stuck)) (hq : ∀ r2 a B2 H2, ES G B1 H1 σ r1 B2 H2 r2 [] [] → dEp G W σ Q' B H r (k r2 a) → Q a H2) : dO G W f σ H1 Q := by
  refine ⟨B1, r1, s.init, ?_⟩
  cases e : f r1 with
  | ok p =>
    obtain ⟨r2, a⟩ := p
    rw [e] at h
    exact fun B2 H2 s2 => hq r2 a B2 H2 s2 h
  | err r2 c fs =>
    rw [e] at h
    exact wErr.later s h
  | stuck =>
    rw [e] at h
    exact h
theorem de_sl {a : Expr} {lo hi : Option Expr} {p2 pos : Pos} {fe : XE} {fl fh : XO} (hK : G.K = X.K) (he : PE X a (dE G W fe)) (hl : PO X lo (dO G W fl)) (hh : PO X hi (dO G W fh)) : PE X (.Subscript a (.Slice lo hi none p2) pos) (dE G W (eSl fe fl fh)) :=
  PE.imp (pe_slice sl_all he hl hh) fun σ H Q h => by
  obtain ⟨B, r, i, h⟩ := h
  refine ⟨B, r, i, ?_⟩
  unfold eSl at h
  cases e : fe r with
  | ok p =>
    obtain ⟨r1, t⟩ := p
    rw [e] at h
    intro v B1 H1 s
    refine dO_on (R := fun _ => True) (k := fun r2 a => match fh r2 with
      | .ok (r3, b) => gSl r3 t a b
      | .err r c fs => .err r c fs
      | .stuck => .stuck) s h fun r2 a B2 H2 s2 h2 => ?_
    refine dO_on (R := fun _ => True) (k := fun r3 b => gSl r3 t a b) (s.app s2) h2 fun r3 b B3 H3 s3 h3 => ?_
    exact gSl_w hK ((s.app s2).app s3) h3
  | err r1 c fs =>
    rw [e] at h
    exact h
  | stuck =>
    rw [e] at h
    exact h
/-- xs[::-1] -/
def gRev (r : Env) (t : T) : Res (Env × T) := match pk r t with
  | .nd _ .lst xs => .ok (r, .nd .ow .lst xs.reverse)
  | .nd _ .fro xs => .ok (r, .nd .ow .lst xs.reverse)
  | _ => .stuck
theorem de_rev {e : Expr} {k : Nat} {p1 p2 p3 pos : Pos} {fe : XE} (hK : G.K = X.K) (he : PE X e (dE G W fe)) : PE X (.Subscript e (.Slice none none (some (.UnaryOp .USub (.Constant (.int 1) k p1) p2)) p3) pos) (dE G W (un fe gRev)) :=
  PE.imp (pe_revL he) fun σ H Q h => un_w (q := fun x H1 Q => ∃ a xs, x = .ref a ∧ SqL X.K H1 a xs ∧ ∀ p, H1 p = none → Q (.ref p) (upd H1 p (.lst xs.reverse))) (fun σ Q B H r B1 H1 r1 v t s h => by
  unfold gRev at h
  split at h
  · rename_i f xs h1
    obtain ⟨a, ws, rfl, ha, hx⟩ := s.rd (i := 0) rfl rfl h1
    exact ⟨a, ws, rfl, SqL.of ha, fun p hp => h _ _ _ (s.newo hp hx.reverse)⟩
  · rename_i f xs h1
    obtain ⟨a, ws, rfl, ha, hx⟩ := s.rd (i := 0) rfl rfl h1
    exact ⟨a, ws, rfl, hK ▸ ha, fun p hp => h _ _ _ (s.newo hp hx.reverse)⟩
  · exact h.elim) σ H Q h
end
end PD
end PartPDA

section PartPDB
set_option Elab.async false
set_option linter.all false
set_option maxRecDepth 100000
set_option maxHeartbeats 4000000
namespace PD
open PySem PySem.Spec PyProof.Rows L2

/-! ### targets -/
abbrev XG := T → XS
def gN (i : Nat) : XG := fun t => setS i t
def gTs : List XG → List T → XS
  | [], [] => sNx
  | g :: gs, t :: ts => fun r => match g t r with
    | .ok (.nx r1) => gTs gs ts r1
    | _ => .stuck
  | _, _ => fun _ => .stuck
def gT (gs : List XG) : XG := fun t r => match t with
  | .nd .sh .tup xs => gTs gs xs r
  | .nd .sh .lst xs => gTs gs xs r
  | _ => .stuck
def dG (G : Gm) (g : XG) : TG := fun v σ H Q => ∃ B r t r', Init G B H σ r ∧ SRep G B v t ∧ g t r = .ok (.nx r') ∧ ∀ σ' B' H', SS G B H σ r B' H' σ' r' [] [] → Q σ' H'
def dGs (G : Gm) (gs : List XG) : TGs := fun vs σ H Q => ∃ B r ts r', Init G B H σ r ∧ SRepL G B vs ts ∧ gTs gs ts r = .ok (.nx r') ∧ ∀ σ' B' H', SS G B H σ r B' H' σ' r' [] [] → Q σ' H'
section
variable {G : Gm} {W : WX} {X : Cx} {B H B1 H1 : Hp} {σ : L2.St} {r r1 : Env}
theorem PG.imp {e : Expr} {t t' : TG} (h : PG X e t) (w : ∀ v σ H Q, t' v σ H Q → t v σ H Q) : PG X e t' := ⟨fun pins s σ H v u Q I r z => h.run pins s σ H v u Q I r (w v σ H Q z)⟩
theorem PGs.imp {e : List Expr} {t t' : TGs} (h : PGs X e t) (w : ∀ v σ H Q, t' v σ H Q → t v σ H Q) : PGs X e t' := ⟨fun pins s σ H v u Q I r z => h.run pins s σ H v u Q I r (w v σ H Q z)⟩
theorem setS_nx {i : Nat} {t : T} {r r' : Env} (h : setS i t r = .ok (.nx r')) : isRf t = false ∧ lent (r[i]?.join) = false ∧ r' = r.set i (some t) := by
  unfold setS at h
  cases q : (isRf t || lent (r[i]?.join)) with
  | true =>
    simp only [q, if_true] at h
    cases h
  | false =>
    simp only [q, Bool.false_eq_true, if_false] at h
    obtain ⟨q1, q2⟩ := Bool.or_eq_false_iff.mp q
    cases h
    exact ⟨q1, q2, rfl⟩
theorem dg_name {i : Nat} {x : Str} {pos : Pos} (hN : X.N.Nodup) (hi : X.N[i]? = some x := by rfl) (hp : G.hit i = false := by rfl) (hx : L2.Loc X.env.scope x := by exact Or.inl rfl) (hf : X.fn x = true ∨ X.env.scope.names.lookup x = some .local := by first | exact .inl rfl | exact .inr rfl) : PG X (.Name x pos) (dG G (gN i)) :=
  PG.imp (pg_name hN hi hx hf) fun v σ H Q ⟨B, r, t, r', ini, hv, e, k⟩ => by
  obtain ⟨q1, q2, e2⟩ := setS_nx e
  subst e2
  exact k _ B H ((ini.es.put hv).set i q1 q2 hp)
theorem dgs_nil : PGs X [] (dGs G []) := PGs.imp pgs_nil fun v σ H Q ⟨B, r, ts, r', ini, hv, e, k⟩ => by
  cases ts with
  | nil =>
    cases v with
    | nil =>
      cases e
      exact ⟨rfl, k σ B H (SS.refl ini)⟩
    | cons _ _ => exact hv.elim
  | cons _ _ => cases e
theorem PGs.consR {e : Expr} {es : List Expr} {t : TG} {u : TGs} (h1 : PG X e t) (h2 : PGs X es u) (h : PGs X (e :: es) (gCons t u)) : PGs X (e :: es) (gCons t u) := h
theorem gCons_w {g : XG} {gs : List XG} (v : List V) (σ : L2.St) (H : Hp) (Q : L2.St → Hp → Prop) (h : dGs G (g :: gs) v σ H Q) : gCons (dG G g) (dGs G gs) v σ H Q := by
  obtain ⟨B, r, ts, r', ini, hv, e, k⟩ := h
  cases ts with
  | nil => cases e
  | cons t ts =>
    cases v with
    | nil => exact hv.elim
    | cons v vs =>
      unfold gTs at e
      cases e1 : g t r with
      | ok o =>
        rw [e1] at e
        cases o with
        | nx r1 => exact ⟨v, vs, rfl, B, r, t, r1, ini, hv.1, e1, fun σ1 B1 H1 s => ⟨B1, r1, ts, r', s.init, SRepL.mono s.stp.ex _ _ hv.2, e, fun σ2 B2 H2 s2 => k σ2 B2 H2 (s.app s2)⟩⟩
        | bk _ => cases e
        | ct _ => cases e
        | rt _ _ => cases e
      | err _ _ _ =>
        rw [e1] at e
        cases e
      | stuck =>
        rw [e1] at e
        cases e
theorem dgs_cons {e : Expr} {es : List Expr} {g : XG} {gs : List XG} (h : PGs X (e :: es) (gCons (dG G g) (dGs G gs))) : PGs X (e :: es) (dGs G (g :: gs)) := PGs.imp h gCons_w
theorem gT_w {K : PySem.W.Frag} {gs : List XG} {n : Nat} (hK : G.K = K) (hn : gs.length = n) (v : V) (σ : L2.St) (H : Hp) (Q : L2.St → Hp → Prop) (h : ∃ B r xs r', Init G B H σ r ∧ SRep G B v (.nd .sh .tup xs) ∧ gTs gs xs r = .ok (.nx r') ∧ ∀ σ' B' H', SS G B H σ r B' H' σ' r' [] [] → Q σ' H') : gTup K n (dGs G gs) v σ H Q := by
  obtain ⟨B, r, xs, r', ini, hv, e, k⟩ := h
  obtain ⟨_, a, ws, rfl, ha, hx⟩ := hv
  have len : ∀ (gs : List XG) (xs : List T) (r r' : Env), gTs gs xs r = .ok (.nx r') → gs.length = xs.length := by
    intro gs
    induction gs with
    | nil =>
      intro xs r r' e
      cases xs with
      | nil => rfl
      | cons _ _ => cases e
    | cons g gs ih =>
      intro xs r r' e
      cases xs with
      | nil => cases e
      | cons x xs =>
        unfold gTs at e
        cases e1 : g x r with
        | ok o =>
          rw [e1] at e
          cases o with
          | nx r1 => rw [List.length_cons, List.length_cons, ih xs r1 r' e]
          | bk _ => cases e
          | ct _ => cases e
          | rt _ _ => cases e
        | err _ _ _ =>
          rw [e1] at e
          cases e
        | stuck =>
          rw [e1] at e
          cases e
  exact ⟨a, ws, rfl, hK ▸ sqT_mono ini.st.sub ha, by rw [hx.length, ← len gs xs r r' e]; exact hn, B, r, xs, r', ini, hx, e, k⟩
/-- (a, b, ..) of a tuple -/
def gU (gs : List XG) : XG := fun t r => match t with
  | .nd .sh .tup xs => gTs gs xs r
  | _ => .stuck
theorem dg_tup {es : List Expr} {k : Nat} {pos : Pos} {gs : List XG} {n : Nat} (hK : G.K = X.K) (hc : X.calm = true) (h : PGs X es (dGs G gs)) (hg : gs.length = n := by rfl) (hn : (assignEach es X.env).length = n := by rfl) (hst : (assignEach es X.env).findIdx? (·.1) = none := by rfl) : PG X (.Tuple es k pos) (dG G (gU gs)) :=
  PG.imp (pg_tup hc h hn hst) fun v σ H Q ⟨B, r, t, r', ini, hv, e, kk⟩ => by
  unfold gU at e
  split at e
  · rename_i xs
    exact gT_w hK hg v σ H Q ⟨B, r, xs, r', ini, hv, e, kk⟩
  · cases e
/-- (a, b, ..) of a list -/
def gL (gs : List XG) : XG := fun t r => match t with
  | .nd .sh .lst xs => gTs gs xs r
  | _ => .stuck
theorem dg_lst {es : List Expr} {k : Nat} {pos : Pos} {gs : List XG} {n : Nat} (hK : G.K = X.K) (hc : X.calm = true) (h : PGs X es (dGs G gs)) (hg : gs.length = n := by rfl) (hn : (assignEach es X.env).length = n := by rfl) (hst : (assignEach es X.env).findIdx? (·.1) = none := by rfl) : PG X (.Tuple es k pos) (dG G (gL gs)) :=
  PG.imp (pg_lst hc h hn hst) fun v σ H Q ⟨B, r, t, r', ini, hv, e, kk⟩ => by
  unfold gL at e
  split at e
  · rename_i xs
    obtain ⟨_, a, ws, rfl, ha, hx⟩ := hv
    have len : ∀ (gs : List XG) (xs : List T) (r r' : Env), gTs gs xs r = .ok (.nx r') → gs.length = xs.length := by
      intro gs
      induction gs with
      | nil =>
        intro xs r r' e
        cases xs with
        | nil => rfl
        | cons _ _ => cases e
      | cons g gs ih =>
        intro xs r r' e
        cases xs with
        | nil => cases e
        | cons x xs =>
          unfold gTs at e
          cases e1 : g x r with
          | ok o =>
            rw [e1] at e
            cases o with
            | nx r1 => rw [List.length_cons, List.length_cons, ih xs r1 r' e]
            | bk _ => cases e
            | ct _ => cases e
            | rt _ _ => cases e
          | err _ _ _ =>
            rw [e1] at e
            cases e
          | stuck =>
            rw [e1] at e
            cases e
    exact ⟨a, ws, rfl, SqL.of (ini.st.sub _ _ ha), by rw [hx.length, ← len gs xs r r' e]; exact hg, B, r, xs, r', ini, hx, e, kk⟩
  · cases e
/-! ### assignment to a target -/
def sAsg (f : XE) (g : XG) : XS := fun r => match f r with
  | .ok (r1, t) => if isSh t then (match g t r1 with
    | .ok (.nx r2) => .ok (.nx r2)
    | _ => .stuck) else .stuck
  | .err r c fs => .err r c fs
  | .stuck => .stuck
theorem ds_asg {tg e : Expr} {pos : Pos} {f : XE} {g : XG} (he : PE X e (dE G W f)) (hg : PG X tg (dG G g)) (hs : swapsWithSole [tg] e pos.line X.env = pure false := by rfl) (hw : swappedStores [tg] e X.env = pure none := by rfl)
    (h1 : (assignEach [tg] X.env).map (·.2) = [assign tg X.env] := by rfl) : PS X (.Assign [tg] e pos) (dS G W (sAsg f g)) := PS.imp (ps_asg he hg hs hw h1) fun D σ H h => by
  obtain ⟨B, r, ini, h⟩ := h
  refine ⟨B, r, ini, ?_⟩
  unfold sAsg at h
  cases e1 : f r with
  | ok p =>
    obtain ⟨r1, t⟩ := p
    rw [e1] at h
    intro v B1 H1 s
    have h2 : dSp G W D σ B H r (if isSh t then (match g t r1 with
      | .ok (.nx r2) => .ok (.nx r2)
      | _ => .stuck) else .stuck) := h
    by_cases q : isSh t = true
    · rw [if_pos q] at h2
      cases e2 : g t r1 with
      | ok o =>
        rw [e2] at h2
        cases o with
        | nx r2 => exact ⟨B1, r1, t, r2, s.init, (s.rep (i := 0) rfl rfl).sh q, e2, fun σ' B' H' s2 => h2 σ' B' H' (s.ss0.app s2)⟩
        | bk _ => exact h2.elim
        | ct _ => exact h2.elim
        | rt _ _ => exact h2.elim
      | err _ _ _ =>
        rw [e2] at h2
        exact h2.elim
      | stuck =>
        rw [e2] at h2
        exact h2.elim
    · rw [if_neg q] at h2
      exact h2.elim
  | err r1 c fs =>
    rw [e1] at h
    exact wErrS.of h
  | stuck =>
    rw [e1] at h
    exact h
/-- a, b = x, y -/
def sPar (i j : Nat) (f : XA) : XS := fun r => match f r with
  | .ok (r1, [t, u]) => if isSh t && isSh u then (match setS i t r1 with
    | .ok (.nx r2) => (match setS j u r2 with
      | .ok (.nx r3) => .ok (.nx r3)
      | _ => .stuck)
    | _ => .stuck) else .stuck
  | .ok _ => .stuck
  | .err r c fs => .err r c fs
  | .stuck => .stuck
theorem set_sh {v : V} {t : T} {i : Nat} {r2 : Env} (hp : G.hit i = false) (ini : Init G B H σ r) (hv : SRep G B v t) (e : setS i t r = .ok (.nx r2)) : SS G B H σ r B H (σ.set i (some v)) r2 [] [] := by
  obtain ⟨q1, q2, e2⟩ := setS_nx e
  subst e2
  exact (ini.es.put hv).set i q1 q2 hp
theorem ds_par {i j : Nat} {x y : Str} {a b : Expr} {f : XA} {px py pt pos : Pos} {kt k2 pt2} (hc : X.calm = true) (hN : X.N.Nodup) (ha : PA X [a, b] (dA G W f)) (hi : X.N[i]? = some x := by rfl) (hj : X.N[j]? = some y := by rfl) (hp : G.hit i = false := by rfl) (hp2 : G.hit j = false := by rfl) (hij : i ≠ j := by decide)
    (hx : X.env.scope.names.lookup x = some .local := by rfl) (hy : X.env.scope.names.lookup y = some .local := by rfl)
    (hw : swappedStores [.Tuple [.Name x px, .Name y py] kt pt] (.Tuple [a, b] k2 pt2) X.env = pure (some [x, y]) := by rfl)
    (hs : swapsWithSole [.Tuple [.Name x px, .Name y py] kt pt] (.Tuple [a, b] k2 pt2) pos.line X.env = pure false := by rfl) :
    PS X (.Assign [.Tuple [.Name x px, .Name y py] kt pt] (.Tuple [a, b] k2 pt2) pos) (dS G W (sPar i j f)) := PS.imp (ps_par hc hN hi hj hij hx hy ha hw hs) fun D σ H h => by
  obtain ⟨B, r, ini, h⟩ := h
  refine ⟨B, r, ini, ?_⟩
  unfold sPar at h
  cases e1 : f r with
  | ok p =>
    obtain ⟨r1, ts⟩ := p
    rw [e1] at h
    intro vs B1 H1 s
    match ts, vs, s, h with
    | [t, u], [v, w], s, h =>
      have h2 : dSp G W D σ B H r (if isSh t && isSh u then (match setS i t r1 with
        | .ok (.nx r2) => (match setS j u r2 with
          | .ok (.nx r3) => .ok (.nx r3)
          | _ => .stuck)
        | _ => .stuck) else .stuck) := h
      split at h2
      · rename_i q
        obtain ⟨q1, q2⟩ := Bool.and_eq_true_iff.mp q
        have sv := (s.rep (i := 0) (v := v) (t := t) rfl rfl).sh q1
        have sw := (s.rep (i := 1) (v := w) (t := u) rfl rfl).sh q2
        split at h2
        · rename_i r2 e2
          split at h2
          · rename_i r3 e3
            have s1 := set_sh hp s.init sv e2
            have s2 := set_sh hp2 s1.init sw e3
            exact ⟨v, w, rfl, h2 _ _ _ ((s.ss0.app s1).app s2)⟩
          · exact h2.elim
        · exact h2.elim
      · exact h2.elim
    | [], _, _, h => exact h.elim
    | [_], _, _, h => exact h.elim
    | _ :: _ :: _ :: _, _, _, h => exact h.elim
    | [_, _], [], s, _ => exact absurd s.lv (by simp)
    | [_, _], [_], s, _ => exact absurd s.lv (by simp)
    | [_, _], _ :: _ :: _ :: _, s, _ => exact absurd s.lv (by simp)
  | err r1 c fs =>
    rw [e1] at h
    exact wErrS.of h
  | stuck =>
    rw [e1] at h
    exact h
/-- x op= e -/
def sAug (i : Nat) (f : XE) (g : Env → T → T → Res (Env × T)) : XS := fun r => match r[i]? with
  | some (some (.sc u)) => (match f r with
    | .ok (r1, t) => (match g r1 (.sc u) t with
      | .ok (r2, t2) => setS i t2 r2
      | .err r c fs => .err r c fs
      | .stuck => .stuck)
    | .err r c fs => .err r c fs
    | .stuck => .stuck)
  | _ => .stuck
theorem ip_of {op : Operator} {q : R2} (h : OpR X (inplaceOp op) q) : PIp X op (fun x y H Q => q x y H Q) := fun pins s σ H x y v u Q I rx ry hq => h pins s σ H x y v u Q I rx ry hq
theorem ds_aug {i : Nat} {x : Str} {e : Expr} {op : Operator} {q : R2} {f : XE} {g : Env → T → T → Res (Env × T)} {pos' pos : Pos} (hN : X.N.Nodup) (hq : OpR X (inplaceOp op) q) (ho : Op2 G W q g) (he : PE X e (dE G W f)) (hi : X.N[i]? = some x := by rfl) (hp : G.hit i = false := by rfl) (hx : L2.Loc X.env.scope x := by exact Or.inl rfl)
    (hf : X.fn x = true ∨ X.env.scope.names.lookup x = some .local := by first | exact .inl rfl | exact .inr rfl) : PS X (.AugAssign (.Name x pos') op e pos) (dS G W (sAug i f g)) := PS.imp (ps_aug hN hi hx he (ip_of hq) hf) fun D σ H h => by
  obtain ⟨B, r, ini, h⟩ := h
  unfold sAug at h
  split at h
  · rename_i u e0
    have lt : i < σ.length := by
      rw [ini.len]
      exact get_lt e0
    have hz : (zl σ r)[i]? = some (σ[i], some (.sc u)) := zl_of (by simp [lt]) e0
    have rp := ini.st.rep _ (List.mem_of_getElem? hz)
    cases ev : σ[i] with
    | none =>
      rw [ev] at rp
      exact rp.elim
    | some v =>
      rw [ev] at rp
      have ev2 : v = u := rp
      subst ev2
      refine ⟨v, by rw [← ev]; simp [lt], B, r, ini, ?_⟩
      cases e1 : f r with
      | ok p =>
        obtain ⟨r1, t⟩ := p
        rw [e1] at h
        intro w B1 H1 s
        have s0 : ES G B H σ r B H r [v] [.sc v] := ini.es.put rfl
        have s2 := s0.app s
        refine ho σ (fun z H2 => D.nx (σ.set i (some z)) H2) B H r B1 H1 r1 v w (.sc v) t s2 ?_
        have h2 : dSp G W D σ B H r (match g r1 (.sc v) t with
          | .ok (r2, t2) => setS i t2 r2
          | .err r c fs => .err r c fs
          | .stuck => .stuck) := h
        cases e2 : g r1 (.sc v) t with
        | ok p2 =>
          obtain ⟨r2, t2⟩ := p2
          rw [e2] at h2
          intro z B2 H2 s3
          have h3 : dSp G W D σ B H r (setS i t2 r2) := h2
          cases e3 : setS i t2 r2 with
          | ok o =>
            rw [e3] at h3
            cases o with
            | nx r3 =>
              obtain ⟨q1, q2, e4⟩ := setS_nx e3
              subst e4
              exact h3 _ _ _ (s3.set i q1 q2 hp)
            | bk _ =>
              unfold setS at e3
              split at e3 <;> cases e3
            | ct _ =>
              unfold setS at e3
              split at e3 <;> cases e3
            | rt _ _ =>
              unfold setS at e3
              split at e3 <;> cases e3
          | err _ _ _ =>
            unfold setS at e3
            split at e3 <;> cases e3
          | stuck =>
            rw [e3] at h3
            exact h3.elim
        | err r2 c fs =>
          rw [e2] at h2
          exact wErrS.of h2
        | stuck =>
          rw [e2] at h2
          exact h2
      | err r1 c fs =>
        rw [e1] at h
        exact wErrS.of h
      | stuck =>
        rw [e1] at h
        exact h
  · exact h.elim
end
end PD
end PartPDB

section PartPDC
set_option Elab.async false
set_option linter.all false
set_option maxRecDepth 100000
set_option maxHeartbeats 4000000
namespace PD
open PySem PySem.Spec PyProof.Rows L2

/-! ### for -/
def forK (g : XG) (b : XS) : List T → XS
  | [] => sNx
  | t :: ts => fun r => match g t r with
    | .ok (.nx r1) => loopK (b r1) (forK g b ts)
    | _ => .stuck
def rngT (lo hi : Int) : List T := (List.range (hi - lo).toNat).map fun (k : Nat) => T.sc (.int (lo + (k : Int)))
def inR (i : Int) : Bool := decide (-(2 ^ 62) ≤ i) && decide (i < 2 ^ 62)
def sForR (f : XA) (g : XG) (b : XS) : XS := fun r => match f r with
  | .ok (r1, [.sc (.int hi)]) => if inR hi then forK g b (rngT 0 hi) r1 else .stuck
  | .ok _ => .stuck
  | .err r c fs => .err r c fs
  | .stuck => .stuck
def sForR2 (f : XA) (g : XG) (b : XS) : XS := fun r => match f r with
  | .ok (r1, [.sc (.int lo), .sc (.int hi)]) => if inR lo && inR hi then forK g b (rngT lo hi) r1 else .stuck
  | .ok _ => .stuck
  | .err r c fs => .err r c fs
  | .stuck => .stuck
def lockF (i : Nat) (r : Env) : Env := match r[i]? with
  | some (some (.nd _ k xs)) => r.set i (some (.nd .lk k xs))
  | _ => r
def unlk (i : Nat) (f : Fl) (r : Env) : Env := match r[i]? with
  | some (some (.nd .lk k ys)) => r.set i (some (.nd f k ys))
  | _ => r
def mapR (h : Env → Env) : Res Out → Res Out
  | .ok (.nx r) => .ok (.nx (h r))
  | .ok (.rt r t) => .ok (.rt (h r) t)
  | .ok (.bk r) => .ok (.bk (h r))
  | .ok (.ct r) => .ok (.ct (h r))
  | .err r c fs => .err (h r) c fs
  | .stuck => .stuck
/-- for over a list, a tuple -/
def sForL (f : XE) (g : XG) (b : XS) : XS := fun r => match f r with
  | .ok (r1, .nd .sh .lst xs) => forK g b xs r1
  | .ok (r1, .nd .ow .lst xs) => forK g b xs r1
  | .ok (r1, .nd .sh .fro xs) => forK g b xs r1
  | .ok (r1, .rf i) => (match r1[i]? with
    | some (some (.nd .sh .lst xs)) => forK g b xs r1
    | some (some (.nd .sh _ _)) => .stuck
    | some (some (.nd f .lst xs)) => mapR (unlk i f) (forK g b xs (lockF i r1))
    | _ => .stuck)
  | .ok _ => .stuck
  | .err r c fs => .err r c fs
  | .stuck => .stuck
def sForU (f : XE) (g : XG) (b : XS) : XS := fun r => match f r with
  | .ok (r1, .nd .sh .tup xs) => forK g b xs r1
  | .ok _ => .stuck
  | .err r c fs => .err r c fs
  | .stuck => .stuck
section
variable {G : Gm} {W : WX} {X : Cx} {B H B1 H1 : Hp} {σ σ1 : L2.St} {r r1 : Env} {D : Ends}
theorem dS_loop1 {fb k : XS} {N : L2.St → Hp → Prop} (s : SS G B H σ r B1 H1 σ1 r1 [] []) (h : dSp G W D σ B H r (loopK (fb r1) k)) (hn : ∀ B2 H2 σ2 r2, SS G B1 H1 σ1 r1 B2 H2 σ2 r2 [] [] → dSp G W D σ2 B2 H2 r2 (k r2) → N σ2 H2) : dS G W fb { D with nx := N, ct := N, bk := D.nx } σ1 H1 := by
  refine ⟨B1, r1, s.init, ?_⟩
  cases eb : fb r1 with
  | ok o =>
    rw [eb] at h
    cases o with
    | nx r2 => exact fun σ2 B2 H2 q => hn B2 H2 σ2 r2 q (dSp.later (s.app q) h)
    | ct r2 => exact fun σ2 B2 H2 q => hn B2 H2 σ2 r2 q (dSp.later (s.app q) h)
    | bk r2 => exact fun σ2 B2 H2 q => h σ2 B2 H2 (s.app q)
    | rt r2 t => exact fun v σ2 B2 H2 q => h v σ2 B2 H2 (s.app q)
  | err r2 c fs =>
    rw [eb] at h
    exact fun d B2 H2 σ2 q x => h d B2 H2 σ2 (s.app q) x
  | stuck =>
    rw [eb] at h
    exact h
/-- one turn -/
theorem for_turn {g : XG} {b : XS} {t : T} {ts : List T} {v : V} {N : L2.St → Hp → Prop} (ini : Init G B H σ r) (hv : SRep G B v t) (h : dSp G W D σ B H r (forK g b (t :: ts) r))
    (hn : ∀ B2 H2 σ2 r2, SS G B H σ r B2 H2 σ2 r2 [] [] → dSp G W D σ2 B2 H2 r2 (forK g b ts r2) → N σ2 H2) : dG G g v σ H fun σ2 H2 => dS G W b { D with nx := N, ct := N, bk := D.nx } σ2 H2 := by
  have h1 : dSp G W D σ B H r (match g t r with
    | .ok (.nx r1) => loopK (b r1) (forK g b ts)
    | _ => .stuck) := h
  split at h1
  · rename_i r1 e
    exact ⟨B, r, t, r1, ini, hv, e, fun σ1 B1 H1 s => dS_loop1 s h1 fun B2 H2 σ2 r2 q h2 => hn B2 H2 σ2 r2 (s.app q) h2⟩
  · exact h1.elim
theorem drop_get {α : Type} {xs : List α} {i : Nat} {x : α} (h : xs[i]? = some x) : xs.drop i = x :: xs.drop (i + 1) := by
  have lt := get_lt h
  rw [List.drop_eq_getElem_cons lt]
  have := List.getElem?_eq_getElem lt
  rw [h] at this
  rw [Option.some.inj this]
theorem rng_loop {g : XG} {b : XS} {lo : Int} {n : Nat} (ini : Init G B H σ r) (h : dSp G W D σ B H r (forK g b ((List.range n).map fun (k : Nat) => T.sc (.int (lo + (k : Int)))) r)) :
    ∃ Wt : Nat → Nat → L2.St → Hp → Prop, (∃ m, Wt 0 m σ H) ∧ ∀ i m σ H, Wt i m σ H →
      ((Itr lo n).stop i H ∧ D.nx σ H) ∨ ((Itr lo n).go i H ∧ ∃ N : L2.St → Hp → Prop, (∀ σ' H', N σ' H' → ∃ m', m' < m ∧ Wt (i + 1) m' σ' H') ∧ ∀ x H', (Itr lo n).yld i H x H' → dG G g x σ H' fun σ2 H2 => dS G W b { D with nx := N, ct := N, bk := D.nx } σ2 H2) := by
  refine for_range (lo := lo) (n := n) (fun i σ H => ∃ B r, Init G B H σ r ∧ dSp G W D σ B H r (forK g b (((List.range n).map fun (k : Nat) => T.sc (.int (lo + (k : Int)))).drop i) r)) ⟨B, r, ini, h⟩ ?_ ?_
  · rintro i σ H hi ⟨B, r, ini, h⟩
    have e : ((List.range n).map fun (k : Nat) => T.sc (.int (lo + (k : Int))))[i]? = some (T.sc (.int (lo + (i : Int)))) := by
      rw [List.getElem?_map, List.getElem?_range hi]
      rfl
    rw [drop_get e] at h
    exact for_turn ini (t := T.sc (.int (lo + (i : Int)))) rfl h fun B2 H2 σ2 r2 s h2 => ⟨B2, r2, s.init, h2⟩
  · rintro σ H ⟨B, r, ini, h⟩
    rw [List.drop_eq_nil_of_le (by rw [List.length_map, List.length_range]; exact Nat.le_refl _)] at h
    exact h σ B H (SS.refl ini)
theorem ds_forR {a : Expr} {tg : Expr} {body : List Stmt} {p pos pos' : Pos} {f : XA} {g : XG} {b : XS} (hp : PassesOwn (model X.prog X.w) X.A X.env X.xe) (hc : X.calm = true) (hg : Gl X "range") (hm : X.mg "range" = none) (ha : PA X [a] (dA G W f)) (htg : PG X tg (dG G g)) (hb : PSs X body (dS G W b))
    (hs : starEach [a] X.env = [(false, eval a X.env)] := by rfl) (hfs : ∀ x, foldedSetIterable (.Call (.Name "range" p) [a] [] pos') X.env x = pure x := by intro _; rfl) : PS X (.For tg (.Call (.Name "range" p) [a] [] pos') body [] pos) (dS G W (sForR f g b)) :=
  PS.imp (ps_for hp hc (pi_range1 hg hm ha hs) htg hb hfs) fun D σ H h => by
  obtain ⟨B, r, ini, h⟩ := h
  refine ⟨B, r, ini, ?_⟩
  unfold sForR at h
  cases e1 : f r with
  | ok q =>
    obtain ⟨r1, ts⟩ := q
    rw [e1] at h
    intro vs B1 H1 s
    split at h
    · rename_i hi e2
      cases e2
      split at h
      · rename_i c
        obtain ⟨c1, c2⟩ := Bool.and_eq_true_iff.mp c
        obtain ⟨v, hv⟩ := s.has (i := 0) rfl
        have ev := s.sc hv rfl
        have el : vs = [.int hi] := by
          have l := s.lv
          cases vs with
          | nil => cases hv
          | cons w ws =>
            cases ws with
            | nil =>
              simp at hv
              subst hv
              rw [ev]
            | cons _ _ => cases l
        have h2 : dSp G W D σ B1 H1 r1 (forK g b (rngT 0 hi) r1) := dSp.later s.ss0 h
        unfold rngT at h2
        rw [Int.sub_zero] at h2
        exact ⟨hi, el, of_decide_eq_true c1, of_decide_eq_true c2, rng_loop s.init h2⟩
      · exact h.elim
    · exact h.elim
    · rename_i e2
      cases e2
    · rename_i e2
      cases e2
  | err r1 c fs =>
    rw [e1] at h
    exact wErrS.of h
  | stuck =>
    rw [e1] at h
    exact h
theorem ds_forR2 {a a2 : Expr} {tg : Expr} {body : List Stmt} {p pos pos' : Pos} {f : XA} {g : XG} {b : XS} (hp : PassesOwn (model X.prog X.w) X.A X.env X.xe) (hc : X.calm = true) (hg : Gl X "range") (hm : X.mg "range" = none) (ha : PA X [a, a2] (dA G W f)) (htg : PG X tg (dG G g)) (hb : PSs X body (dS G W b))
    (hs : starEach [a, a2] X.env = [(false, eval a X.env), (false, eval a2 X.env)] := by rfl) (hs2 : starEach [a2] X.env = [(false, eval a2 X.env)] := by rfl) (hfs : ∀ x, foldedSetIterable (.Call (.Name "range" p) [a, a2] [] pos') X.env x = pure x := by intro _; rfl) : PS X (.For tg (.Call (.Name "range" p) [a, a2] [] pos') body [] pos) (dS G W (sForR2 f g b)) :=
  PS.imp (ps_for hp hc (pi_range2 hg hm ha hs hs2) htg hb hfs) fun D σ H h => by
  obtain ⟨B, r, ini, h⟩ := h
  refine ⟨B, r, ini, ?_⟩
  unfold sForR2 at h
  cases e1 : f r with
  | ok q =>
    obtain ⟨r1, ts⟩ := q
    rw [e1] at h
    intro vs B1 H1 s
    split at h
    · rename_i lo hi e2
      cases e2
      split at h
      · rename_i c
        obtain ⟨c1, c2⟩ := Bool.and_eq_true_iff.mp c
        obtain ⟨c11, c12⟩ := Bool.and_eq_true_iff.mp c1
        obtain ⟨c21, c22⟩ := Bool.and_eq_true_iff.mp c2
        obtain ⟨v, hv⟩ := s.has (i := 0) rfl
        obtain ⟨w, hw⟩ := s.has (i := 1) rfl
        have ev := s.sc hv rfl
        have ew := s.sc hw rfl
        have el : vs = [.int lo, .int hi] := by
          have l := s.lv
          match vs, hv, hw, l with
          | [x, y], hv, hw, _ =>
            simp at hv hw
            subst hv hw
            rw [ev, ew]
          | [], hv, _, _ => cases hv
          | [_], _, hw, _ => cases hw
          | _ :: _ :: _ :: _, _, _, l => exact absurd l (by simp)
        have h2 : dSp G W D σ B1 H1 r1 (forK g b (rngT lo hi) r1) := dSp.later s.ss0 h
        exact ⟨lo, hi, el, ⟨of_decide_eq_true c11, of_decide_eq_true c12, of_decide_eq_true c21, of_decide_eq_true c22⟩, rng_loop s.init h2⟩
      · exact h.elim
    · exact h.elim
    · rename_i e2
      cases e2
    · rename_i e2
      cases e2
  | err r1 c fs =>
    rw [e1] at h
    exact wErrS.of h
  | stuck =>
    rw [e1] at h
    exact h
/-! over a list -/
/-- a list that no step of these slots may write -/
def Held (K : PySem.W.Frag) (H : Hp) (L : List Ent) (a : Addr) (ws : List V) : Prop := (Rd H a (.lst ws) ∧ ¬ Wr L a) ∨ ∀ H', SqL K H' a ws
def HeldT (K : PySem.W.Frag) (H : Hp) (L : List Ent) (a : Addr) (ws : List V) : Prop := (Rd H a (.tup ws) ∧ ¬ Wr L a) ∨ ∀ H', SqT K H' a ws
theorem Held.sq {K : PySem.W.Frag} {L : List Ent} {a : Addr} {ws : List V} (h : Held K H L a ws) : SqL K H a ws := by
  rcases h with h | h
  · exact .inl h.1
  · exact h H
theorem HeldT.sq {K : PySem.W.Frag} {L : List Ent} {a : Addr} {ws : List V} (h : HeldT K H L a ws) : SqT K H a ws := by
  rcases h with h | h
  · exact .inl h.1
  · exact h H
theorem rd_step {L L' : List Ent} {a : Addr} {u : HO} {B' H' : Hp} (s : Stp G B H L B' H' L') (h : Rd H a u) (n : ¬ Wr L a) : Rd H' a u ∧ ¬ Wr L' a := by
  constructor
  · rcases h with h | ⟨o, h⟩
    · exact .inl (s.fr _ _ n h)
    · exact .inr ⟨o, s.fr _ _ n h⟩
  · intro z
    rcases s.ww a z with y | y
    · exact n y
    · rcases h with h | ⟨o, h⟩
      · rw [h] at y
        cases y
      · rw [h] at y
        cases y
theorem Held.step {K : PySem.W.Frag} {L L' : List Ent} {a : Addr} {ws : List V} {B' H' : Hp} (h : Held K H L a ws) (s : Stp G B H L B' H' L') : Held K H' L' a ws := by
  rcases h with h | h
  · exact .inl (rd_step s h.1 h.2)
  · exact .inr h
theorem HeldT.step {K : PySem.W.Frag} {L L' : List Ent} {a : Addr} {ws : List V} {B' H' : Hp} (h : HeldT K H L a ws) (s : Stp G B H L B' H' L') : HeldT K H' L' a ws := by
  rcases h with h | h
  · exact .inl (rd_step s h.1 h.2)
  · exact .inr h
theorem not_wr {L : List Ent} (st : St G B H L) {a : Addr} {o : HO} (h : B a = some o) : ¬ Wr L a := fun z => by
  rw [(st.own z.own).1] at h
  cases h
theorem rd_not_wr {L : List Ent} (st : St G B H L) {a : Addr} {u : HO} (h : Rd B a u) : ¬ Wr L a := by
  rcases h with h | ⟨o, h⟩
  · exact not_wr st h
  · exact not_wr st h
theorem held_fro {K : PySem.W.Frag} {L : List Ent} {a : Addr} {ws : List V} (st : St G B H L) (h : SqL K B a ws) : Held K H L a ws := by
  rcases h with h | h
  · refine .inl ⟨?_, rd_not_wr st h⟩
    rcases h with h | ⟨o, h⟩
    · exact .inl (st.sub _ _ h)
    · exact .inr ⟨o, st.sub _ _ h⟩
  · exact .inr fun H' => .inr h
theorem held_tup {K : PySem.W.Frag} {L : List Ent} {a : Addr} {ws : List V} (st : St G B H L) (h : SqT K B a ws) : HeldT K H L a ws := by
  rcases h with h | h
  · refine .inl ⟨?_, rd_not_wr st h⟩
    rcases h with h | ⟨o, h⟩
    · exact .inl (st.sub _ _ h)
    · exact .inr ⟨o, st.sub _ _ h⟩
  · exact .inr fun H' => .inr h
theorem list_loop {K : PySem.W.Frag} {g : XG} {b : XS} {a : Addr} {ws : List V} {xs : List T} {B0 : Hp} (hB : Same B0 B) (hx : SRepL G B0 ws xs) (ini : Init G B H σ r) (hh : Held K H (zl σ r) a ws) (h : dSp G W D σ B H r (forK g b xs r)) :
    ∃ Wt : Nat → Nat → L2.St → Hp → Prop, (∃ m, Wt 0 m σ H) ∧ ∀ i m σ H, Wt i m σ H →
      ((Itl K a).stop i H ∧ D.nx σ H) ∨ ((Itl K a).go i H ∧ ∃ N : L2.St → Hp → Prop, (∀ σ' H', N σ' H' → ∃ m', m' < m ∧ Wt (i + 1) m' σ' H') ∧ ∀ x H', (Itl K a).yld i H x H' → dG G g x σ H' fun σ2 H2 => dS G W b { D with nx := N, ct := N, bk := D.nx } σ2 H2) := by
  refine for_list (K := K) (a := a) (xs := ws) (fun i σ H => ∃ B r, Same B0 B ∧ Init G B H σ r ∧ Held K H (zl σ r) a ws ∧ dSp G W D σ B H r (forK g b (xs.drop i) r)) ⟨B, r, hB, ini, hh, h⟩ (fun i σ H _ ⟨B, r, _, _, hh, _⟩ => hh.sq) ?_ ?_
  · rintro i x σ H hi ⟨B, r, hB, ini, hh, h⟩
    have lx : i < xs.length := by
      rw [← hx.length]
      exact get_lt hi
    have ex : xs[i]? = some xs[i] := List.getElem?_eq_getElem lx
    obtain ⟨w, hw, hr⟩ := hx.get ex
    rw [hi] at hw
    cases hw
    rw [drop_get ex] at h
    exact for_turn ini (SRep.mono hB _ _ hr) h fun B2 H2 σ2 r2 s h2 => ⟨B2, r2, hB.trans s.stp.ex, s.init, hh.step s.drop, h2⟩
  · rintro σ H ⟨B, r, hB, ini, hh, h⟩
    rw [List.drop_eq_nil_of_le (by rw [hx.length]; exact Nat.le_refl _)] at h
    exact h σ B H (SS.refl ini)
theorem tup_loop {K : PySem.W.Frag} {g : XG} {b : XS} {a : Addr} {ws : List V} {xs : List T} {B0 : Hp} (hB : Same B0 B) (hx : SRepL G B0 ws xs) (ini : Init G B H σ r) (hh : HeldT K H (zl σ r) a ws) (h : dSp G W D σ B H r (forK g b xs r)) :
    ∃ Wt : Nat → Nat → L2.St → Hp → Prop, (∃ m, Wt 0 m σ H) ∧ ∀ i m σ H, Wt i m σ H →
      ((Itt K a).stop i H ∧ D.nx σ H) ∨ ((Itt K a).go i H ∧ ∃ N : L2.St → Hp → Prop, (∀ σ' H', N σ' H' → ∃ m', m' < m ∧ Wt (i + 1) m' σ' H') ∧ ∀ x H', (Itt K a).yld i H x H' → dG G g x σ H' fun σ2 H2 => dS G W b { D with nx := N, ct := N, bk := D.nx } σ2 H2) := by
  refine for_tup (K := K) (a := a) (xs := ws) (fun i σ H => ∃ B r, Same B0 B ∧ Init G B H σ r ∧ HeldT K H (zl σ r) a ws ∧ dSp G W D σ B H r (forK g b (xs.drop i) r)) ⟨B, r, hB, ini, hh, h⟩ (fun i σ H _ ⟨B, r, _, _, hh, _⟩ => hh.sq) ?_ ?_
  · rintro i x σ H hi ⟨B, r, hB, ini, hh, h⟩
    have lx : i < xs.length := by
      rw [← hx.length]
      exact get_lt hi
    have ex : xs[i]? = some xs[i] := List.getElem?_eq_getElem lx
    obtain ⟨w, hw, hr⟩ := hx.get ex
    rw [hi] at hw
    cases hw
    rw [drop_get ex] at h
    exact for_turn ini (SRep.mono hB _ _ hr) h fun B2 H2 σ2 r2 s h2 => ⟨B2, r2, hB.trans s.stp.ex, s.init, hh.step s.drop, h2⟩
  · rintro σ H ⟨B, r, hB, ini, hh, h⟩
    rw [List.drop_eq_nil_of_le (by rw [hx.length]; exact Nat.le_refl _)] at h
    exact h σ B H (SS.refl ini)
/-! a slot that is walked is locked -/
theorem lock_zl {i : Nat} {v : V} {f : Fl} {k : Kd} {xs : List T} (hi : (zl σ r)[i]? = some (some v, some (.nd f k xs))) (f' : Fl) : zl σ (r.set i (some (.nd f' k xs))) = (zl σ r).set i (some v, some (.nd f' k xs)) := by
  have h1 := (zl_get hi).1
  have e1 : σ.set i (some v) = σ := by
    apply List.ext_getElem?
    intro j
    by_cases e : i = j
    · subst e
      rw [List.getElem?_set_self (get_lt h1), h1]
    · rw [List.getElem?_set_ne e]
  have := zip_set σ r i (some v) (some (.nd f' k xs))
  rw [e1] at this
  exact this
theorem st_reflag {L : List Ent} {i : Nat} {v : V} {f f' : Fl} {k : Kd} {xs : List T} (st : St G B H L) (nr : Refs 0 L) (hi : L[i]? = some (some v, some (.nd f k xs))) (q : owf f = true) (q' : owf f' = true) : St G B H (L.set i (some v, some (.nd f' k xs))) ∧ Refs 0 (L.set i (some v, some (.nd f' k xs))) := by
  refine ⟨⟨st.sub, fun e he => ?_, set_sep st.sep hi q, st.floor⟩, fun e he j ej => ?_⟩
  · rcases mem_set_ix he with ⟨j, hj, h⟩ | ⟨h, _⟩
    · exact rep_idx (fun m y em _ => absurd (nr e (List.mem_of_getElem? h) m em) (Nat.not_lt_zero m)) (st.rep e (List.mem_of_getElem? h))
    · subst h
      have r0 : (if owf f then ∃ a vs, v = .ref a ∧ B a = none ∧ OwC G H a vs k ∧ SRepL G B vs xs else SRep G B v (.nd f k xs)) := st.rep _ (List.mem_of_getElem? hi)
      rw [if_pos q] at r0
      show (if owf f' then ∃ a vs, v = .ref a ∧ B a = none ∧ OwC G H a vs k ∧ SRepL G B vs xs else SRep G B v (.nd f' k xs))
      rw [if_pos q']
      exact r0
  · rcases mem_set_ix he with ⟨m, _, h⟩ | ⟨h, _⟩
    · exact nr e (List.mem_of_getElem? h) j ej
    · subst h
      cases ej
theorem lock_init {i : Nat} {v : V} {f : Fl} {k : Kd} {xs : List T} (ini : Init G B H σ r) (hi : (zl σ r)[i]? = some (some v, some (.nd f k xs))) (q : owf f = true) : Init G B H σ (r.set i (some (.nd .lk k xs))) := by
  obtain ⟨h1, h2⟩ := st_reflag (f' := .lk) ini.st ini.nr hi q rfl
  exact ⟨by rw [List.length_set]; exact ini.len, by rw [lock_zl hi]; exact h2, by rw [lock_zl hi]; exact h1, ini.ps⟩
/-- behind a walk: the lock is taken off -/
theorem unlock {i : Nat} {v : V} {f : Fl} {k : Kd} {xs : List T} {vs : List V} {ts : List T} (ini : Init G B H σ r) (hi : (zl σ r)[i]? = some (some v, some (.nd f k xs))) (q : owf f = true) (s : SS G B H σ (r.set i (some (.nd .lk k xs))) B1 H1 σ1 r1 vs ts) :
    SS G B H σ r B1 H1 σ1 (unlk i f r1) vs ts := by
  have lockd : (zl σ (r.set i (some (.nd .lk k xs))))[i]? = some (some v, some (.nd .lk k xs)) := by
    rw [lock_zl hi, List.getElem?_set_self (get_lt hi)]
  obtain ⟨ys, hy⟩ := s.kp i v .lk k xs lockd (.inr rfl)
  have hr1 := (zl_get hy).2
  have eu : unlk i f r1 = r1.set i (some (.nd f k ys)) := by
    unfold unlk
    simp only [hr1]
  have ez : zl σ1 (unlk i f r1) = (zl σ1 r1).set i (some v, some (.nd f k ys)) := by
    rw [eu]
    exact lock_zl hy f
  have st1 := s.stp.st
  have hyL : (zl σ1 r1 ++ prs vs ts)[i]? = some (some v, some (.nd .lk k ys)) := by
    rw [List.getElem?_append_left (get_lt hy)]
    exact hy
  have es : (zl σ1 r1).set i (some v, some (.nd f k ys)) ++ prs vs ts = (zl σ1 r1 ++ prs vs ts).set i (some v, some (.nd f k ys)) := (List.set_append_left i _ (get_lt hy)).symm
  have nrA : Refs 0 (zl σ1 r1 ++ prs vs ts) := fun e he j ej => by
    rcases List.mem_append.mp he with h | h
    · exact s.nr e h j ej
    · exact s.rn e h j ej
  obtain ⟨g1, g2⟩ := st_reflag (f' := f) st1 nrA hyL rfl q
  have wlk : ∀ a, Wr (zl σ (r.set i (some (.nd .lk k xs)))) a → Wr (zl σ r) a := fun a ⟨f', k', xs', he, hf⟩ => by
    rw [lock_zl hi] at he
    rcases mem_set_ix he with ⟨j, _, h⟩ | ⟨h, _⟩
    · exact ⟨f', k', xs', List.mem_of_getElem? h, hf⟩
    · cases h
      cases hf
  have olk : ∀ a, Own (zl σ (r.set i (some (.nd .lk k xs)))) a → Own (zl σ r) a := fun a ⟨e, he, ha⟩ => by
    rw [lock_zl hi] at he
    rcases mem_set_ix he with ⟨j, _, h⟩ | ⟨h, _⟩
    · exact ⟨e, List.mem_of_getElem? h, ha⟩
    · subst h
      obtain ⟨_, _, _, e2, _⟩ := adr_own ha
      have ev : v = .ref a := Option.some.inj (congrArg Prod.fst e2)
      exact ⟨_, List.mem_of_getElem? hi, by rw [ev]; exact adr_of q⟩
  refine { len := by rw [eu, List.length_set]; exact s.len, ls := s.ls, lv := s.lv, nr := ?_, rn := s.rn, kp := ?_, stp := ?_, ps := s.ps }
  · rw [ez]
    exact fun e he j ej => g2 e (by rw [← es]; exact List.mem_append_left _ he) j ej
  · rw [ez]
    intro j w f' k' xs' e l
    by_cases e1 : i = j
    · subst e1
      rw [hi] at e
      cases e
      exact ⟨ys, List.getElem?_set_self (get_lt hy)⟩
    · have e2 : (zl σ (r.set i (some (.nd .lk k xs))))[j]? = some (some w, some (.nd f' k' xs')) := by
        rw [lock_zl hi, List.getElem?_set_ne e1]
        exact e
      obtain ⟨zs, hz⟩ := s.kp j w f' k' xs' e2 l
      exact ⟨zs, by rw [List.getElem?_set_ne e1]; exact hz⟩
  · rw [ez, es]
    have z := s.stp
    refine { st := g1, ex := z.ex, fr := fun a o n h => z.fr a o (fun y => n (wlk a y)) h, nw := fun a ⟨e, he, ha⟩ => ?_, ww := fun a ⟨f', k', xs', he, hf⟩ => ?_, nb := fun a h => ?_ }
    · rcases mem_set_ix he with ⟨j, _, h⟩ | ⟨h, _⟩
      · rcases z.nw a ⟨e, List.mem_of_getElem? h, ha⟩ with y | y
        · exact .inl (olk a y)
        · exact .inr y
      · subst h
        obtain ⟨_, _, _, e2, _⟩ := adr_own ha
        have ev : v = .ref a := Option.some.inj (congrArg Prod.fst e2)
        exact .inl ⟨_, List.mem_of_getElem? hi, by rw [ev]; exact adr_of q⟩
    · rcases mem_set_ix he with ⟨j, _, h⟩ | ⟨h, _⟩
      · rcases z.ww a ⟨f', k', xs', List.mem_of_getElem? h, hf⟩ with y | y
        · exact .inl (wlk a y)
        · exact .inr y
      · cases h
        exact .inl ⟨f, k, xs, List.mem_of_getElem? hi, hf⟩
    · rcases z.nb a h with y | y | y
      · exact .inl y
      · exact .inr (.inl (wlk a y))
      · exact .inr (.inr y)
theorem dSp.unlock {i : Nat} {v : V} {f : Fl} {k : Kd} {xs : List T} {o : Res Out} (ini : Init G B H σ r) (hi : (zl σ r)[i]? = some (some v, some (.nd f k xs))) (q : owf f = true) (h : dSp G W D σ B H r (mapR (unlk i f) o)) : dSp G W D σ B H (r.set i (some (.nd .lk k xs))) o := by
  cases o with
  | ok o =>
    cases o with
    | nx r2 => exact fun σ2 B2 H2 s => h σ2 B2 H2 (PD.unlock ini hi q s)
    | bk r2 => exact fun σ2 B2 H2 s => h σ2 B2 H2 (PD.unlock ini hi q s)
    | ct r2 => exact fun σ2 B2 H2 s => h σ2 B2 H2 (PD.unlock ini hi q s)
    | rt r2 t => exact fun v σ2 B2 H2 s => h v σ2 B2 H2 (PD.unlock ini hi q s)
  | err r2 c fs => exact fun d B2 H2 σ2 s x => h d B2 H2 σ2 (PD.unlock ini hi q s) x
  | stuck => exact h
theorem ds_forL {e tg : Expr} {body : List Stmt} {pos : Pos} {f : XE} {g : XG} {b : XS} (hK : G.K = X.K) (hp : PassesOwn (model X.prog X.w) X.A X.env X.xe) (hc : X.calm = true) (he : PE X e (dE G W f)) (htg : PG X tg (dG G g)) (hb : PSs X body (dS G W b)) (hfs : ∀ x, foldedSetIterable e X.env x = pure x := by intro _; rfl) :
    PS X (.For tg e body [] pos) (dS G W (sForL f g b)) :=
  PS.imp (ps_for hp hc (pi_list he) htg hb hfs) fun D σ H h => by
  obtain ⟨B, r, ini, h⟩ := h
  refine ⟨B, r, ini, ?_⟩
  unfold sForL at h
  cases e1 : f r with
  | ok q =>
    obtain ⟨r1, t⟩ := q
    rw [e1] at h
    intro v B1 H1 s
    cases t with
    | sc _ => exact h.elim
    | nd fl k xs =>
      have st := s.es.stp.st
      cases k with
      | tup => cases fl <;> exact h.elim
      | ins c => cases fl <;> exact h.elim
      | fro =>
        cases fl <;> first | exact h.elim | skip
        have rp := s.rep (i := 0) (v := v) (t := .nd .sh .fro xs) rfl rfl
        obtain ⟨_, a, ws, rfl, ha, hx⟩ : SRep G B1 v (.nd .sh .fro xs) := rp
        have ha' : SqL G.K B1 a ws := ha
        have hh := held_fro (L := zl σ r1) s.init.st ha'
        exact ⟨a, rfl, ⟨ws, hK ▸ hh.sq⟩, list_loop (Same.refl B1) hx s.init (hK ▸ hh) (dSp.later s.ss0 h)⟩
      | lst =>
        cases fl with
        | ln => exact h.elim
        | lk => exact h.elim
        | sh =>
          have rp := s.rep (i := 0) (v := v) (t := .nd .sh .lst xs) rfl rfl
          obtain ⟨_, a, ws, rfl, ha, hx⟩ : SRep G B1 v (.nd .sh .lst xs) := rp
          have ha' : B1 a = some (.lst ws) := ha
          have hh : Held X.K H1 (zl σ r1) a ws := .inl ⟨.inl (st.sub _ _ ha'), not_wr s.init.st ha'⟩
          exact ⟨a, rfl, ⟨ws, hh.sq⟩, list_loop (Same.refl B1) hx s.init hh (dSp.later s.ss0 h)⟩
        | ow =>
          obtain ⟨a, ws, rfl, ba, ha, hx⟩ : ∃ a ws, v = .ref a ∧ B1 a = none ∧ OwC G H1 a ws .lst ∧ SRepL G B1 ws xs := s.rep (i := 0) (v := v) (t := .nd .ow .lst xs) rfl rfl
          have ha' : H1 a = some (.lst ws) := ha
          have nw : ¬ Wr (zl σ r1) a := fun z => by
            obtain ⟨e', he', ha2⟩ := z.own
            exact (List.pairwise_append.mp st.sep).2.2 e' he' _ (List.mem_singleton.mpr rfl) a ha2 (adr_of rfl)
          have hh : Held X.K H1 (zl σ r1) a ws := .inl ⟨.inl ha', nw⟩
          exact ⟨a, rfl, ⟨ws, hh.sq⟩, list_loop (Same.refl B1) hx s.init hh (dSp.later s.ss0 h)⟩
    | rf i =>
      obtain ⟨fl, k, xs, h3⟩ := s.rep (i := 0) (v := v) (t := .rf i) rfl rfl
      have lt : i < (zl σ r).length := s.es.rn _ (prs_mem (i := 0) (vs := [v]) (ts := [T.rf i]) rfl rfl) i rfl
      rw [List.getElem?_append_left (by rw [s.es.len]; exact lt)] at h3
      have h4 := (zl_get h3).2
      simp only [h4] at h
      have rp := s.init.st.rep _ (List.mem_of_getElem? h3)
      have own : owf fl = true → k = .lst → dSp G W D σ B H r (mapR (unlk i fl) (forK g b xs (lockF i r1))) → ∃ a, v = .ref a ∧ (∃ xs, SqL X.K H1 a xs) ∧ ∃ Wt : Nat → Nat → L2.St → Hp → Prop, (∃ m, Wt 0 m σ H1) ∧ ∀ i m σ H, Wt i m σ H →
          ((Itl X.K a).stop i H ∧ D.nx σ H) ∨ ((Itl X.K a).go i H ∧ ∃ N : L2.St → Hp → Prop, (∀ σ' H', N σ' H' → ∃ m', m' < m ∧ Wt (i + 1) m' σ' H') ∧ ∀ x H', (Itl X.K a).yld i H x H' → dG G g x σ H' fun σ2 H2 => dS G W b { D with nx := N, ct := N, bk := D.nx } σ2 H2) := fun q ek hq => by
        subst ek
        have rp' : (if owf fl then ∃ a vs, v = .ref a ∧ B1 a = none ∧ OwC G H1 a vs .lst ∧ SRepL G B1 vs xs else SRep G B1 v (.nd fl .lst xs)) := rp
        rw [if_pos q] at rp'
        obtain ⟨a, ws, rfl, ba, ha, hx⟩ := rp'
        have ha' : H1 a = some (.lst ws) := ha
        have el : lockF i r1 = r1.set i (some (.nd .lk .lst xs)) := by
          unfold lockF
          simp only [h4]
        rw [el] at hq
        have li := lock_init s.init h3 q
        have nw : ¬ Wr (zl σ (r1.set i (some (.nd .lk .lst xs)))) a := by
          rintro ⟨f', k', xs', he', hf'⟩
          rw [lock_zl h3] at he'
          rcases mem_set_ix he' with ⟨j, hj, hz⟩ | ⟨hz, _⟩
          · have qf : owf f' = true := by cases f' <;> first | rfl | cases hf'
            exact hj (sep_ix s.init.st.sep hz h3 (adr_of qf) (adr_of q))
          · cases hz
            cases hf'
        have hh : Held X.K H1 (zl σ (r1.set i (some (.nd .lk .lst xs)))) a ws := .inl ⟨.inl ha', nw⟩
        exact ⟨a, rfl, ⟨ws, hh.sq⟩, list_loop (Same.refl B1) hx li hh (dSp.unlock s.init h3 q (dSp.later s.ss0 hq))⟩
      cases fl with
      | sh =>
        cases k with
        | lst =>
          obtain ⟨_, a, ws, rfl, ha, hx⟩ : SRep G B1 v (.nd .sh .lst xs) := rp
          have ha' : B1 a = some (.lst ws) := ha
          have hh : Held X.K H1 (zl σ r1) a ws := .inl ⟨.inl (s.es.stp.st.sub _ _ ha'), not_wr s.init.st ha'⟩
          exact ⟨a, rfl, ⟨ws, hh.sq⟩, list_loop (Same.refl B1) hx s.init hh (dSp.later s.ss0 h)⟩
        | _ => exact h.elim
      | ow =>
        cases k with
        | lst => exact own rfl rfl h
        | _ => exact h.elim
      | ln =>
        cases k with
        | lst => exact own rfl rfl h
        | _ => exact h.elim
      | lk =>
        cases k with
        | lst => exact own rfl rfl h
        | _ => exact h.elim
  | err r1 c fs =>
    rw [e1] at h
    exact wErrS.of h
  | stuck =>
    rw [e1] at h
    exact h
theorem ds_forU {e tg : Expr} {body : List Stmt} {pos : Pos} {f : XE} {g : XG} {b : XS} (hK : G.K = X.K) (hp : PassesOwn (model X.prog X.w) X.A X.env X.xe) (hc : X.calm = true) (he : PE X e (dE G W f)) (htg : PG X tg (dG G g)) (hb : PSs X body (dS G W b)) (hfs : ∀ x, foldedSetIterable e X.env x = pure x := by intro _; rfl) :
    PS X (.For tg e body [] pos) (dS G W (sForU f g b)) :=
  PS.imp (ps_for hp hc (pi_tup he) htg hb hfs) fun D σ H h => by
  obtain ⟨B, r, ini, h⟩ := h
  refine ⟨B, r, ini, ?_⟩
  unfold sForU at h
  cases e1 : f r with
  | ok q =>
    obtain ⟨r1, t⟩ := q
    rw [e1] at h
    intro v B1 H1 s
    cases t with
    | sc _ => exact h.elim
    | rf _ => exact h.elim
    | nd fl k xs =>
      cases k with
      | tup =>
        cases fl <;> first | exact h.elim | skip
        obtain ⟨_, a, ws, rfl, ha, hx⟩ : SRep G B1 v (.nd .sh .tup xs) := s.rep (i := 0) (v := v) (t := .nd .sh .tup xs) rfl rfl
        have ha' : SqT G.K B1 a ws := ha
        have hh := held_tup (L := zl σ r1) s.init.st ha'
        exact ⟨a, rfl, ⟨ws, hK ▸ hh.sq⟩, tup_loop (Same.refl B1) hx s.init (hK ▸ hh) (dSp.later s.ss0 h)⟩
      | lst => cases fl <;> exact h.elim
      | fro => cases fl <;> exact h.elim
      | ins c => cases fl <;> exact h.elim
  | err r1 c fs =>
    rw [e1] at h
    exact wErrS.of h
  | stuck =>
    rw [e1] at h
    exact h
end
end PD
end PartPDC

section PartPDE
set_option Elab.async false
set_option linter.all false
set_option maxRecDepth 100000
set_option maxHeartbeats 4000000
/-! ### an own error whose __init__ says super().__init__('..') and keeps one field -/
namespace PD
open PySem L2 PySem.Spec PyProof.Rows PySem.W

abbrev inScope (x : Str) : Scope := { kind := .function, names := [("self", .local), (x, .local), ("__class__", .free), ("super", .globalImplicit)], isGenerator := false, isCoroutine := false, more := [] }
def cxI (P : Program) (w : World) (K : Frag) (mg : Str → Option Value) (base : Heap) (x : Str) (qual : Str) (f : Addr) (cd : Value) (cc : Addr) (A : Around) (outer : List PySem.Env) (s : Shared) (H : Hp) (xe : Value → Shared → Prop) : Cx where
  prog := P
  w := w
  K := K
  mg := mg
  base := base
  A := A.deeper (ksEnv qual (inScope x) s.heap.objs.size f cd cc)
  N := ["self", x]
  s_0 := s
  H_0 := H
  env := ksEnv qual (inScope x) s.heap.objs.size f cd cc
  outer := outer
  stack := ksEnv qual (inScope x) s.heap.objs.size f cd cc :: outer
  ex := []
  fn := fun _ => false
  calm := false
  pn := []
  xe := xe
section
variable {P : Program} {w : World} {K : Frag} {mg : Str → Option Value} {base : Heap} {x : Str} {qual : Str} {f : Addr} {cd : Value} {cc C D : Addr} {A : Around} {outer : List PySem.Env} {s : Shared} {H : Hp} {xe : Value → Shared → Prop}
theorem look1 {y : Str} {c : Addr} (h : List.lookup y [(("__class__" : Str), cc)] = some c) : y = "__class__" ∧ c = cc := by
  unfold List.lookup at h
  split at h
  · rename_i e
    exact ⟨beq_iff_eq.mp e, (Option.some.inj h).symm⟩
  · cases h
theorem kinds {y : Str} {k : NameKind} (hx1 : x ≠ "self") (h : (inScope x).names.lookup y = some k) : (y = "self" ∧ k = .local) ∨ (y = x ∧ k = .local) ∨ (y = "__class__" ∧ k = .free) ∨ (y = "super" ∧ k = .globalImplicit) := by
  have h : List.lookup y [(("self" : Str), NameKind.local), (x, .local), ("__class__", .free), ("super", .globalImplicit)] = some k := h
  rw [List.lookup_cons] at h
  split at h
  · rename_i e
    cases h
    exact .inl ⟨beq_iff_eq.mp e, rfl⟩
  rw [List.lookup_cons] at h
  split at h
  · rename_i e
    cases h
    exact .inr (.inl ⟨beq_iff_eq.mp e, rfl⟩)
  rw [List.lookup_cons] at h
  split at h
  · rename_i e
    cases h
    exact .inr (.inr (.inl ⟨beq_iff_eq.mp e, rfl⟩))
  rw [List.lookup_cons] at h
  split at h
  · rename_i e
    cases h
    exact .inr (.inr (.inr ⟨beq_iff_eq.mp e, rfl⟩))
  cases h
theorem kind_x (hx1 : x ≠ "self") : (inScope x).names.lookup x = some .local := by
  show List.lookup x [(("self" : Str), NameKind.local), (x, .local), ("__class__", .free), ("super", .globalImplicit)] = _
  rw [List.lookup_cons]
  split
  · rfl
  · rw [List.lookup_cons, beq_self_eq_true x]
theorem inv_init {cl : Value} {cld : Option Addr} {csl : Array (Option Value)} {v1 v2 : V} {u1 u2 : Value} {h0 : Heap} {t : Nat} (hx1 : x ≠ "self") (e0 : Env0 P w K mg base A outer s H) (hn : h0.Ns s.heap.objs.size (fun y => List.lookup y [(x, u2), ("self", u1)]))
    (hk : ∀ b o, s.heap.get? b = some o → h0.get? b = some o) (r1 : RelV v1 u1) (r2 : RelV v2 u2) (hcc : K.lookup cc = some ⟨cl, cld, .cell (some (.ref D)), csl⟩) :
    Inv (cxI P w K mg base x qual f cd cc A outer s H xe) [] [some v1, some v2] H { s with heap := h0, toks := t } := by
  have bcc := e0.mod.kin _ _ hcc
  refine ⟨⟨e0.mod, rfl, rfl, rfl, Nat.le_refl _, fun y z c a b => (look1 a).1.trans (look1 b).1.symm, fun y hy => ?_, fun y c z _ => Bool.noConfusion (show false = true from z), fun z => Bool.noConfusion (show false = true from z), Around.frames_deeper e0.frames, .inr ⟨rfl, rfl⟩, fun b z => absurd (show b ∈ ([] : List Addr) from z) (by simp), e0.bs, e0.bsz, fun b _ _ z => absurd (show b ∈ ([] : List Addr) from z) (by simp), fun b z => absurd (show b ∈ ([] : List Addr) from z) (by simp), e0.funs, e0.frf⟩,
    rfl, e0.bare, Un.kept hk, ⟨_, hn, fun i y v a b c => ?_⟩, fun y c a => ?_, e0.hok.fresh (Nat.le_refl _), fun y c a => ?_, fun q z => absurd (show q ∈ ([] : List (Addr × Obj)) from z) (by simp), e0.hok.kept hk, rfl⟩
  · have hy : (inScope x).names.lookup y = some .cell ∨ (inScope x).names.lookup y = some .free := hy
    rcases hy with hy | hy
    · rcases kinds hx1 hy with ⟨_, q⟩ | ⟨_, q⟩ | ⟨_, q⟩ | ⟨_, q⟩ <;> cases q
    · rcases kinds hx1 hy with ⟨_, q⟩ | ⟨_, q⟩ | ⟨e, q⟩ | ⟨_, q⟩
      · cases q
      · cases q
      · subst e
        exact ⟨cc, rfl⟩
      · cases q
  · match i with
    | 0 =>
      cases a
      cases b
      refine ⟨u1, r1, .inl ⟨rfl, ?_⟩⟩
      show List.lookup ("self" : Str) [(x, u2), ("self", u1)] = some u1
      rw [List.lookup_cons, show (("self" : Str) == x) = false from beq_eq_false_iff_ne.mpr (Ne.symm hx1)]
      rfl
    | 1 =>
      cases a
      cases b
      refine ⟨u2, r2, .inl ⟨kind_x hx1, ?_⟩⟩
      show List.lookup x [(x, u2), ("self", u1)] = some u2
      rw [List.lookup_cons, beq_self_eq_true x]
    | n + 2 => cases a
  · obtain ⟨_, rfl⟩ := look1 a
    exact ⟨_, _, hk _ _ (e0.bs _ _ bcc).1, rfl⟩
  · obtain ⟨_, rfl⟩ := look1 a
    exact (e0.bs _ _ bcc).2
/-- super's method-wrapper called -/
theorem call_mw {prog : Program} {E : Value → Shared → Prop} {g : Array GenState} {d : Drawn} {t : Nat} {os : OsState} {h : Heap} {nm q : Str} {N : Addr} {bs bm bmB : List Value} {hdct : Bool} {sn : List Str} {sub : List Value} {ab : Bool} {col : Option Bool} {dd : Option Addr} {k0 k1 k2 k3 k5 : Option Value}
    {B i newId : String} (FB : ExcBaseFacts B newId i bmB) {u e t0 : Addr} {rest : List Value} {Q : Value → Shared → Prop}
    (hC : h.get? C = some (excClassObj nm q C N bs bm hdct sn sub ab col dd k0 k1 k2 k3 k5 newId)) (he : h.get? e = some (HandSPX.excO C t0)) (hu : h.get? u = some (kxs_mw i e)) (hr : rest.length ≤ sizeLine)
    (hq : ∀ h' t1, (∀ b o, b ≠ e → h.get? b = some o → h'.get? b = some o) → h'.get? e = some (HandSPX.excO C t1) → Q .none ⟨h', g, d, t, os⟩) :
    wpAny (model prog w) A (call (.ref u) rest) Q E ⟨h, g, d, t, os⟩ := by
  have c1 : (Value.type "method-wrapper" == Value.type "method" || Value.type "method-wrapper" == Value.type "builtin_function_or_method" || Value.type "method-wrapper" == Value.type "method-wrapper") = true := by decide
  refine wpAny_call (codeAny_of_tree ?_)
  unfold kxs_mw at hu
  show wpAny _ A.in1 (callAny (.ref u) { pos := rest, kw := [] }) _ _ _
  simp only [callAny]
  refine wpAny_bind (wpAny_load hu ?_)
  simp only [c1, if_true]
  refine KFB.if_so (by decide) ?_
  refine wpAny_bind (check_bound_init (rest := rest) FB.toExcCallFacts hC he rfl ?_)
  refine wpAny_bind (wpAny_pure (wpAny_pure ?_))
  refine ⟨plainId_quiet FB.init.plain _, codeAny_builtin FB.initEntry ?_⟩
  exact exc_init_tree (t0 := t0) (c3 := .none) he hr fun h' k1 k2 _ => hq h' _ k1 k2
end
end PD
end PartPDE

section PartPDF
set_option Elab.async false
set_option linter.all false
set_option maxRecDepth 100000
set_option maxHeartbeats 4000000
namespace PD
open PySem L2 PySem.Spec PyProof.Rows PySem.W

/-- what such an __init__ does -/
def spI (C : Addr) (x : Str) : Sp := fun vs H Q _ => ∃ a v, vs = [.ref a, v] ∧ H a = some (exo a C none) ∧ ∀ dx, H dx = none → dx ≠ a → Q .non (upd (upd H dx (exd dx [(x, v)])) a (exo a C (some dx)))
/-- what the written part says of it: the object's class C, the class D whose text it stands in -/
structure InitK (P : Program) (K : Frag) (mg : Str → Option Value) (C D f cc cda : Addr) (qual x : Str) (params : Arguments) : Prop where
  cd : codeIn K (.ref cda) qual = true
  code : ∃ ccl cdd vs ccs file tf, K.lookup cda = some ⟨ccl, cdd, .fields vs, ccs⟩ ∧ vs[2]? = some (.str file tf) ∧ ((P.main.file : Str) == file) = true
  cell : ∃ cl cld csl, K.lookup cc = some ⟨cl, cld, .cell (some (.ref D)), csl⟩
  clsD : (clsIn K D).isSome = true
  sub : mroIn K C (.ref D) = some true
  sup : mg "super" = none
  top : (P.main.scope.names.lookup ("super" : Str)).isSome = false
  exc : OexC K C
  no : findIn K (.ref C) x = some none
  any : nsIn K cStatics "thirdparty.any" = some none
  mth : ks_superIn K C D "__init__" = some (some (.builtin "ValueError.__init__"))
  isB : subIn K (.ref C) (.type "ValueError") = some true
  x1 : (x == ("self" : Str)) = false
  x2 : (("super" : Str) == x) = false
  x3 : (("__class__" : Str) == x) = false
  x4 : (x == ("__debug__" : Str)) = false
  x5 : (x == ("__classdict__" : Str)) = false
  par : ∃ ar, (params.posonlyargs ++ params.args).head? = some ar ∧ ar.arg = "self"
theorem boot_super : bootBuiltins "super" = some (.type "super") := by decide +kernel
theorem kind_super {x : Str} (h : (("super" : Str) == x) = false) : (inScope x).names.lookup ("super" : Str) = some .globalImplicit := by
  show List.lookup ("super" : Str) [(("self" : Str), NameKind.local), (x, .local), ("__class__", .free), ("super", .globalImplicit)] = _
  rw [List.lookup_cons, show (("super" : Str) == ("self" : Str)) = false by decide]
  simp only [List.lookup_cons, h]
  rfl
theorem kind_class {x : Str} (h : (("__class__" : Str) == x) = false) : (inScope x).names.lookup ("__class__" : Str) = some .free := by
  show List.lookup ("__class__" : Str) [(("self" : Str), NameKind.local), (x, .local), ("__class__", .free), ("super", .globalImplicit)] = _
  rw [List.lookup_cons, show (("__class__" : Str) == ("self" : Str)) = false by decide]
  simp only [List.lookup_cons, h]
  rfl
/-- a piece of a walk with a new pin -/
theorem pin_new {X : Cx} {σ : L2.St} {H : Hp} {s : Shared} {h' : Heap} {u : Addr} {o : Obj} {t : Nat} (I : Inv X [] σ H s) (k : ∀ b v, s.heap.get? b = some v → h'.get? b = some v) (hu : s.heap.objs.size ≤ u) (ho : h'.get? u = some o) (nc : ∀ v, o.data ≠ .cell v) : Inv X [(u, o)] σ H { s with heap := h', toks := t } := by
  refine (I.kept (t' := t) k).pins_of fun p hp => ?_
  have e : p = (u, o) := List.mem_singleton.mp hp
  subst e
  exact ⟨ho, I.hok.fresh hu, Nat.ne_of_gt (Nat.lt_of_lt_of_le I.lt hu), I.nofs hu, nc⟩
section
variable {P : Program} {w : World} {K : Frag} {mg : Str → Option Value} {base : Heap} {x : Str} {name qual : Str} {f cda cc C D : Addr} {A : Around} {outer : List PySem.Env} {s : Shared} {H : Hp} {xe : Value → Shared → Prop}
  {params : Arguments} {m : Str} {dV kV doc pm ct oc : Value} {an od : Option Addr} {osl : Array (Option Value)} {j : Nat} {p0 p1 p2 p3 p4 p5 p6 p7 p8 p9 : Pos}
abbrev inBody (m x : Str) (j : Nat) (p0 p1 p2 p3 p4 p5 p6 p7 p8 p9 : Pos) : List Stmt :=
  [.Expr (.Call (.Attribute (.Call (.Name "super" p0) [] [] p1) "__init__" p2) [.Constant (.str m) j p3] [] p4) p5, .Assign [.Attribute (.Name "self" p6) x p7] (.Name x p8) p9]
abbrev inEv (m : Str) (j : Nat) (p0 p1 p2 p3 p4 : Pos) (pl : Sem Bool) : Prop := ∀ env : PySem.Env, eval (.Call (.Attribute (.Call (.Name "super" p0) [] [] p1) "__init__" p2) [.Constant (.str m) j p3] [] p4) env = (do
    let ob ← attributeBase (.Call (.Name "super" p0) [] [] p1) "__init__" env (eval (.Call (.Name "super" p0) [] [] p1) env)
    standAt p2.atName
    let (fn, fst) ← holding [ob] (getMethod ob "__init__" pl)
    callWith p4 fn fst (backTo p4 (starEach [.Constant (.str m) j p3] env)) [])
theorem init_run {CX : CXT} {pl : Sem Bool} (hev : inEv m j p0 p1 p2 p3 p4 pl) (F : InitK P K mg C D f cc cda qual x params) (lk : K.lookup f = some ⟨oc, od, .func (ksFn name qual params (inBody m x j p0 p1 p2 p3 p4 p5 p6 p7 p8 p9) (inScope x) dV kV doc pm an (.ref cda) ct cc), osl⟩)
    (hroom : A.depth < recursionLimit) (e0 : Env0 P w K mg base A outer s H) {args : Args} {us : List Value} {vs : List V} {Q : VK} {E : XK} (hb : BindsTo s (ksFn name qual params (inBody m x j p0 p1 p2 p3 p4 p5 p6 p7 p8 p9) (inScope x) dV kV doc pm an (.ref cda) ct cc) args ([("self" : Str), x].zip us))
    (rv : Vals vs us) (h : spI C x vs H Q E) : codeAny (model P w) A (.call (.ref f) args) (CR CX outer P w H s Q E) s := by
  obtain ⟨a, v, rfl, ha, hq⟩ := h
  obtain ⟨ccl, cdd, fvs, ccs, file, tf, hcode, hvs, hfile⟩ := F.code
  obtain ⟨cl, cld, csl, hcell⟩ := F.cell
  obtain ⟨ar, hpar, har⟩ := F.par
  have hx1 : x ≠ "self" := fun z => by
    have q := F.x1
    rw [z] at q
    simp at q
  cases rv with
  | @cons _ u1 _ us1 ru1 rr =>
  cases rr with
  | @cons _ u2 _ us2 ru2 rr =>
  cases rr
  obtain rfl : u1 = Value.ref a := ru1
  have KX : K.In s.heap := e0.mod.kin.keeps fun b o e => (e0.bs b o e).1
  have lim : s.heap.NoLimit := e0.mod.nolimit.keeps fun b o e => (e0.bs b o e).1
  refine ks_codeAny_call_defAt (binds := [("self", .ref a), (x, u2)]) hroom (KX _ _ lk) rfl lim (codeRec_of KX F.cd) rfl hb (fun y hy z => ?_) (fun y hy => ?_) fun h0 hns hk => ?_
  · rcases List.mem_cons.mp hy with e | hy
    · subst e
      cases z
    rcases List.mem_cons.mp hy with e | hy
    · subst e
      cases z
    rcases List.mem_cons.mp hy with e | hy
    · subst e
      cases z
    rcases List.mem_cons.mp hy with e | hy
    · subst e
      cases z
    cases hy
  · rcases List.mem_cons.mp hy with e | hy
    · subst e
      rfl
    · have e := List.mem_singleton.mp hy
      subst e
      exact kind_x hx1
  obtain ⟨hs, g, dr, tk, os⟩ := s
  -- the walk
  generalize hxe : (fun (e : Value) (s' : Shared) => wpAny (model P w) (A.deeper (ksEnv qual (inScope x) hs.objs.size f (.ref cda) cc)) (leaving (ksEnv qual (inScope x) hs.objs.size f (.ref cda) cc) e) (fun _ s'' => CR CX outer P w H ⟨hs, g, dr, tk, os⟩ Q E (.error e) s'') (fun e' s'' => CR CX outer P w H ⟨hs, g, dr, tk, os⟩ Q E (.error e') s'') s') = xe
  have hns' : h0.Ns hs.objs.size (fun y => List.lookup y [(x, u2), ("self", Value.ref a)]) := hns
  have I : Inv (cxI P w K mg base x qual f (.ref cda) cc A outer ⟨hs, g, dr, tk, os⟩ H xe) [] [some (.ref a), some v] H ⟨h0, g, dr, tk + 2, os⟩ := inv_init (t := tk + 2) hx1 e0 hns' hk rfl ru2 hcell
  have K0 : K.In h0 := I.kIn
  obtain ⟨t1, hobj⟩ := exo_at I.hok ha
  cases hcd : clsIn K D with
  | none =>
    have z := F.clsD
    rw [hcd] at z
    cases z
  | some cdD =>
  obtain ⟨oD, hD1, hD2⟩ : ∃ oD, h0.get? D = some oD ∧ oD.data = .cls cdD := by
    unfold clsIn at hcd
    split at hcd
    · rename_i c d cd' sl ho
      cases hcd
      exact ⟨_, K0 _ _ ho, rfl⟩
    · cases hcd
  generalize hfd : ksFn name qual params (inBody m x j p0 p1 p2 p3 p4 p5 p6 p7 p8 p9) (inScope x) dV kV doc pm an (.ref cda) ct cc = fd at *
  have hcall : callEnv fd hs.objs.size f = ksEnv qual (inScope x) hs.objs.size f (.ref cda) cc := by rw [← hfd]; rfl
  have hps : fd.params = params := by rw [← hfd]
  show _root_.PySem.wpAt _ (A.deeper (callEnv fd hs.objs.size f)) (.func _ (callEnv fd hs.objs.size f)) (execs (inBody m x j p0 p1 p2 p3 p4 p5 p6 p7 p8 p9) (callEnv fd hs.objs.size f)) _ (fun e s' => wpAny (model P w) (A.deeper (callEnv fd hs.objs.size f)) (leaving (callEnv fd hs.objs.size f) e) _ _ s') _
  rw [hcall, hxe]
  generalize henv : ksEnv qual (inScope x) hs.objs.size f (.ref cda) cc = env at *
  refine ks_wpAt_execs_cons (ks_wpAt_Expr_any (hi := by rw [← henv]; rfl) (hs := by rfl) (ks_wpAt_MethodCall (pl := pl) ?_ (hev _)))
  have h1 : env.kindOf "super" = some .globalImplicit := by
    rw [← henv]
    exact kind_super F.x2
  have h2 : env.kindOf "__class__" = some .free := by
    rw [← henv]
    exact kind_class F.x3
  have h3 : env.kindOf "self" = some .local := by
    rw [← henv]
    rfl
  have hkd : env.scope.kind = .function := by rw [← henv]
  refine ks_wpAt_super_base (env := env) (of := ⟨oc, od, .func fd, osl⟩) h1 h2 (by decide) (by rw [← henv]) (K0 _ _ lk) rfl (by rw [hps]; exact hpar) (by rw [← henv]) (K0 _ _ hcode) rfl hvs hfile F.top ?_
  obtain ⟨mb, hm1, hm2⟩ := e0.mod.blt
  have hg : h0.Ns env.globals mg := by
    rw [← henv]
    exact e0.mod.glob.keeps fun b o e => hk _ _ (e0.bs b o e).1
  have hbl : h0.Ns env.builtins mb := by
    rw [← henv]
    exact hm1.keeps fun b o e => hk _ _ (e0.bs b o e).1
  refine ks_loadName_global hkd h1 (Calls.loadGlobal_builtin hg F.sup hbl ((hm2 "super" (by decide)).trans boot_super) ⟨rfl, ?_⟩)
  refine wpAny_loadName_free hkd h2 (c := cc) (by rw [← henv]; rfl) (v := .ref D) ⟨_, K0 _ _ hcell, rfl⟩ ?_
  have hsel : ar.arg = "self" := har
  rw [hsel]
  refine wpAny_loadName_local hkd h3 (m := fun y => List.lookup y [(x, u2), ("self", Value.ref a)]) (by rw [← henv]; exact hns') (v := .ref a) ?_ ?_
  · show List.lookup ("self" : Str) [(x, u2), ("self", Value.ref a)] = _
    rw [List.lookup_cons, show (("self" : Str) == x) = false from beq_eq_false_iff_ne.mpr (Ne.symm hx1)]
    rfl
  refine ks_wpAny_isType_cls hD1 hD2 ⟨rfl, ?_⟩
  refine ks_wpAny_call_super hD1 hD2 hobj rfl (fun c e => by cases e) (looks_mroIn K0 F.sub) (fun h1' e1 k1 => ?_)
  have K1 : K.In h1' := K0.keeps k1
  cases hcC : clsIn K C with
  | none =>
    have z := F.mth
    unfold ks_superIn at z
    rw [hcC] at z
    cases z
  | some cdC =>
  have hm := F.mth
  unfold ks_superIn at hm
  rw [hcC] at hm
  have hmr : Looks (model P w) h1' (mroOf (.ref C)) cdC.mro := (looks_clsIn K1 hcC).andThen .now
  have IA : InstAt h1' a _ C none := ⟨k1 _ _ hobj, rfl, rfl, trivial⟩
  refine kxs_getMethod kxs_ValueError e1 (looks_opaque K1 F.any) hmr rfl K1 hm (IA.type.andThen (looks_subIn K1 F.isB)) (ks_ne K1 IA hcC) (by decide) ?_
  subst henv
  have kk : ∀ b o, h0.get? b = some o → (h1'.push (kxs_mw "ValueError.__init__" a)).get? b = some o := fun b o e => Heap.get?_push_of_some _ (k1 b o e)
  have hso : h0.objs.size ≤ h1'.objs.size := Nat.le_of_lt (Heap.lt_size e1)
  have I1 := pin_new (h' := h1'.push (kxs_mw "ValueError.__init__" a)) (u := h1'.objs.size) (o := kxs_mw "ValueError.__init__" a) (t := tk + 2 + 1) I kk hso (Heap.get?_push_size h1' rfl) (fun v z => by cases z)
  have pa : PA (cxI P w K mg base x qual f (.ref cda) cc A outer ⟨hs, g, dr, tk, os⟩ H xe) [.Constant (.str m) j p3] (tCons (tC (.str m)) tNil) := pa_cons pe_str pa_nil
  have bu : base.get? h1'.objs.size = none := by
    cases z : base.get? h1'.objs.size with
    | none => rfl
    | some o => exact absurd (Heap.lt_size (kk _ _ (hk _ _ (e0.bs _ _ z).1))) (by
        intro q
        have z2 := Heap.lt_size (hk _ _ (e0.bs _ _ z).1)
        exact absurd (Nat.lt_of_lt_of_le z2 hso) (Nat.lt_irrefl _))
  have N1 : News base hs.objs.size (h1'.push (kxs_mw "ValueError.__init__" a)) [(h1'.objs.size, kxs_mw "ValueError.__init__" a)] := fun p hp => by
    have e := List.mem_singleton.mp hp
    subst e
    exact ⟨Heap.get?_push_size h1' rfl, (I1.pin (h1'.objs.size, kxs_mw "ValueError.__init__" a) (List.mem_append_right _ (List.mem_singleton.mpr rfl))).2.2.1, bu⟩
  refine kxs_callWith1 (x := a) (i := "ValueError.__init__") N1 (List.mem_singleton.mpr rfl) ?_
  refine wpAny_mono (pa.run p4 _ _ _ H (fun ws H1 => ws = [V.str m] ∧ H1 = H) I1 ⟨rfl, rfl⟩) (fun us s1 hh => ?_) fun e s' q => q
  obtain ⟨ws, H1, I2, r1, ew, eH⟩ := hh
  subst ew
  subst eH
  refine ⟨(I2.pin (h1'.objs.size, kxs_mw "ValueError.__init__" a) (List.mem_append_right _ (List.mem_singleton.mpr rfl))).1, ?_⟩
  have hlen : us.length ≤ sizeLine := by
    rw [← Paired.length r1, sizeLine_eq]
    show 1 ≤ _
    omega
  obtain ⟨nm, q, N, bs, bm, sn, sub, ab, col, dd, c0, c1, c2, c3, c5, hC, hbm⟩ := F.exc.cls
  obtain ⟨t3, he3⟩ := exo_at I2.hok ha
  have hu3 := (I2.pin (h1'.objs.size, kxs_mw "ValueError.__init__" a) (List.mem_append_right _ (List.mem_singleton.mpr rfl))).1
  have hC3 := I2.kIn _ _ hC
  obtain ⟨hh3, g3, d3, tk3, os3⟩ := s1
  refine call_mw PySem.F.excBase_ValueError hC3 he3 hu3 hlen fun h4 t4 k4 e4 => ?_
  have J := I2.write (t' := tk3) (x := a) (e := a) (o := exo a C none) (by rw [ha]; exact True.intro) (.inl rfl) k4 ⟨_, e4⟩ (exo_ok e4)
  rw [show upd H1 a (exo a C none) = H1 from funext fun b => by
    by_cases hb : b = a
    · rw [hb, upd_same, ha]
    · rw [upd_ne hb]] at J
  have pst : PSs (cxI P w K mg base x qual f (.ref cda) cc A outer ⟨hs, g, dr, tk, os⟩ H1 xe) [.Assign [.Attribute (.Name "self" p6) x p7] (.Name x p8) p9] (tOst K x (tVar 0) (tVar 1)) :=
    pss_one (ps_ost (pe_var rfl (.inl rfl)) (pe_var rfl (.inl (kind_x hx1)) F.x4 F.x5))
  refine wpAt_of_wpAny (wpAny_mono (pst.run _ _ _ H1 { nx := fun _ H' => Q .non H', rt := Q } J ⟨v, rfl, .ref a, rfl, a, C, rfl, F.exc, F.no, .inl ⟨ha, hq⟩⟩) (fun fl s' z => ?_) fun e s' z => z)
  cases fl with
  | ret u =>
    obtain ⟨v', σ', H', J', rv', q'⟩ := z
    exact ⟨v', H', J'.os, J'.bare, J'.base, J'.hok, rv', q'⟩
  | next =>
    obtain ⟨σ', H', J', q'⟩ := z
    exact ⟨.non, H', J'.os, J'.bare, J'.base, J'.hok, rfl, q'⟩
  | brk =>
    obtain ⟨_, _, _, q'⟩ := z
    exact q'.elim
  | cont =>
    obtain ⟨_, _, _, q'⟩ := z
    exact q'.elim
end
end PD
end PartPDF

section PartPDG
set_option Elab.async false
set_option linter.all false
set_option maxRecDepth 100000
set_option maxHeartbeats 4000000
/-! ### raise -/
namespace PD
open PySem L2 PySem.Spec PyProof.Rows

/-- C(e), C's own __init__ as above -/
def tMkI (C : Addr) (x : Str) (ta : TA) : L2.St → Hp → XK → Prop := fun σ H Q => ta σ H fun vs H1 => ∃ v, vs = [v] ∧ ∀ d, H1 d = none → Q (.ref C) (some d) (upd H1 d (.xd [(x, v)]))
/-- what the raise of such an error asks of the written part -/
structure InitF (P : Program) (w : World) (K : PySem.W.Frag) (mg : Str → Option Value) (C f : Addr) (x : Str) : Prop where
  run : ∃ fd : FuncData, (∀ (CX : CXT) (base : Heap) (A : Around) (outer : List PySem.Env) (s : Shared) (H : Hp) (args : Args) (us : List Value) (vs : List V) (Q : VK) (E : XK), A.depth < recursionLimit → Env0 P w K mg base A outer s H →
      BindsTo s fd args ([("self" : Str), x].zip us) → Vals vs us → spI C x vs H Q E → codeAny (model P w) A (.call (.ref f) args) (CR CX outer P w H s Q E) s) ∧ Binds K fd ["self", x] []
  exc : OexC K C
  ini : PySem.W.findIn K (.ref C) "__init__" = some (some (.ref f))
  typ : PySem.W.typeIn K (.ref f) = some (.type "function")
section
variable {X : Cx} {C f : Addr} {x xn : Str} {e : Expr} {ta : TA} {p pos : Pos} {k : Nat}
theorem pmk_init (F : InitF X.prog X.w X.K X.mg C f x) (hr : L2H.RoomH (k + 1) X.A) (hm : X.mg xn = some (.ref C)) (ha : PA X [e] ta) (hg : Gl X xn) (hdb : (xn == ("__debug__" : Str)) = false)
    (he : starEach [e] X.env = (false, eval e X.env) :: starEach [] X.env) : L2H.PMk5 X (.Call (.Name xn p) [e] [] pos) (tMkI C x ta) := by
  intro pins s σ H Q I h
  obtain ⟨fd, hrun, hb⟩ := F.run
  obtain ⟨c1, c2, c3, c4, c5, c6, c7, c8, c9, c10, c11, c12, c13, c14, c15, hC, hmro⟩ := F.exc.cls
  refine wpAny_Call_Name_kw (ld_glob I hg hm ?_ hdb)
  refine PySem.W.callWith_K (h₀ := X.base) I.ok.mod.kin F.exc.kC (thn (ha.run pos pins s σ H _ I h) fun us s1 ⟨vs, H1, J, rv, v, ev, hq⟩ => ⟨J.kIn, ?_⟩) he rfl
  subst ev
  show wpAny _ _ (call (.ref C) us) _ _ _
  obtain ⟨hp, gn, dr, tk, os⟩ := s1
  generalize ea : hp.objs.size + 1 = a
  have sz : hp.objs.size ≤ a := by omega
  have na : H1 a = none := J.hok.fresh sz
  let hp2 := (hp.push (PySem.W.kdv_tup us)).push (PySem.HandSPX.excO C hp.objs.size)
  have up : ∀ b o, hp.get? b = some o → hp2.get? b = some o := fun b o z => Heap.get?_push_of_some _ (Heap.get?_push_of_some _ z)
  have at2 : hp2.get? a = some (PySem.HandSPX.excO C hp.objs.size) := by
    rw [← ea]
    show ((hp.push (PySem.W.kdv_tup us)).push (PySem.HandSPX.excO C hp.objs.size)).get? (hp.objs.size + 1) = _
    heap_get
  have J2 : Inv X pins σ (upd H1 a (exo a C none)) ⟨hp2, gn, dr, tk, os⟩ := J.laid (t' := tk) (h' := hp2) up sz (exo_ok at2)
  have rv2 : Vals (V.ref a :: [v]) (Value.ref a :: us) := .cons rfl rv
  have ul : us.length = 1 := by
    rw [← Paired.length rv]
    rfl
  have us1 : us.length ≤ sizeLine := by
    rw [ul, sizeLine_eq]
    omega
  have bd := hb ⟨hp2, gn, dr, tk, os⟩ (Value.ref a :: us) J2.kIn (by rw [List.append_nil, List.length_cons, ul]; rfl)
  rw [List.append_nil] at bd
  have cm : PySem.codeAny (model X.prog X.w) (X.A.under (.builtin "type.__call__" ⟨.ref C :: us, []⟩)) (.call (.ref f) ⟨Value.ref a :: us, []⟩) (CR (fun _ _ _ _ _ _ => False) X.stack X.prog X.w (upd H1 a (exo a C none)) ⟨hp2, gn, dr, tk, os⟩
      (fun u H2 => u = .non ∧ ∃ d, H1 d = none ∧ d ≠ a ∧ H2 = upd (upd (upd H1 a (exo a C none)) d (exd d [(x, v)])) a (exo a C (some d))) (fun _ _ _ => False)) ⟨hp2, gn, dr, tk, os⟩ :=
    hrun (fun _ _ _ _ _ _ => False) X.base _ X.stack _ _ _ _ _ _ _ (hr.make C us []).depth (J2.env0.make C us []) bd rv2 ⟨a, v, rfl, upd_same, fun d n ne => ⟨rfl, d, by rw [upd_ne ne] at n; exact n, ne, rfl⟩⟩
  rw [← ea] at cm
  refine wpAny_call (PySem.HandSPX.call_own PySem.F.excBase_ValueError (fun Y => PySem.HandSPX.refsVE_contains Y _ hmro) (J.kIn _ _ hC) (PySem.W.looks_findIn J.kIn F.ini) (fun self => PySem.W.bind_fn J.kIn self F.typ) us1 (codeAny_mono cm fun r s' z => ?_))
  rw [ea] at z
  cases r with
  | error er => exact z.elim
  | ok fl =>
    cases fl with
    | next => exact z.elim
    | brk => exact z.elim
    | cont => exact z.elim
    | ret u =>
      obtain ⟨v2, H2, z1, z2, z3, z4, z5, z6, d, nd, ne, e2⟩ := z
      subst z6
      obtain ⟨h2, g2, d2, t2, os2⟩ := s'
      rw [ea]
      have xa : H2 a = some (exo a C (some d)) := by rw [e2, upd_same]
      have xd : H2 d = some (exd d [(x, v)]) := by rw [e2, upd_ne ne, upd_same]
      obtain ⟨t0, hp3, J3, k3, n3, o3, _⟩ := mk_end0 (d2 := d2) (t2 := t2) J sz up z3 z4 z1 z2 xa xd nd
      have eH : upd (del H2 a) d (.xd [(x, v)]) = upd H1 d (.xd [(x, v)]) := by
        funext b
        by_cases b1 : b = d
        · subst b1
          rw [upd_same, upd_same]
        · rw [upd_ne b1, upd_ne b1]
          by_cases b2 : b = a
          · subst b2
            rw [del_same, na]
          · rw [del_ne b2, e2, upd_ne b2, upd_ne b1, upd_ne b2]
      rw [eH] at J3
      refine ⟨z5, ⟨a, _, _, ⟨hp3, g2, d2, t2, os2⟩, _, .ref C, some d, rfl, J3, k3, n3, o3, ⟨rfl, rfl, fun vs hv => ?_⟩, rfl, rfl, by rw [upd_ne (Ne.symm ne)]; exact na, rfl, z2, raises_own F.exc.exC F.exc.tyC, hq d nd⟩, fun b oe vs eb hg2 hd2 => ?_⟩
      · cases hv
        rfl
      · cases eb
        have hg3 : h2.get? a = some oe := hg2
        rw [o3] at hg3
        cases hg3
        cases hd2
        exact (by decide : (4 : Nat) < 6)
/-- C(), C a class without an __init__ -/
structure Ini0 (K : PySem.W.Frag) (mg : Str → Option Value) (C : Addr) (x : Str) : Prop where
  ex : ∃ bmB B newId initId, ExcBaseFacts B newId initId bmB ∧ PySem.W.excIn K C bmB newId = true
  kp : PySem.W.keepIn K (.ref C) = true
  mg : mg x = some (.ref C)
  exC : PySem.W.subIn K (.ref C) (.type "BaseException") = some true
  tyC : PySem.W.typeIn K (.ref C) = some (.type "type")
theorem pmk_init0 (F : Ini0 X.K X.mg C xn) (hg : Gl X xn) (hdb : (xn == ("__debug__" : Str)) = false) : L2H.PMk5 X (.Call (.Name xn p) [] [] pos) (fun _ H Q => Q (.ref C) none H) := by
  intro pins s σ H Q I h
  obtain ⟨bmB, B, newId, initId, F1, q⟩ := F.ex
  refine wpAny_Call_Name_kw (ld_glob I hg F.mg ?_ hdb)
  refine PySem.W.callWith_K0 I.kIn F.kp ?_
  show wpAny _ _ (call (.ref C) []) _ _ _
  obtain ⟨bm, N, nm, qn, bs, hdct, sn, sub, ab, col, dd, k0, k1, k2, k3, k5, mN, hC, hN, hni, T⟩ := exc_obj I.kIn q
  refine wpAny_call_exc_subT F1 T hC hN hni (fun h' e hm => ?_) (Nat.zero_le _)
  exact L2H.mk_of5 I hm (raises_own F.exC F.tyC) h (I.hok.gone hm.new)
end
end PD
end PartPDG

section PartPDH
set_option Elab.async false
set_option linter.all false
set_option maxRecDepth 100000
set_option maxHeartbeats 4000000
/-! ### try with any clauses, named or not -/
namespace PD
open PySem L2 PySem.Spec PyProof.Rows

abbrev HdT := Value × Option Nat × (Addr → Value → Option Addr → TS)
inductive HdsN (X : Cx) : List ExceptHandler → List HdT → Prop
  | nil : HdsN X [] []
  | named {x n : Str} {i : Nat} {c : Value} {ts : Addr → Value → Option Addr → TS} {st : Stmt} {sts : List Stmt} {np p' : Pos} {hs : List ExceptHandler} {l : List HdT} (hc : Names X x c) (hi : X.N[i]? = some n) (hl : X.env.kindOf n = some .local)
      (hx : ∀ (a : Addr) (oe : Obj) (cls : Value) (d : Option Addr) (pn : List (Addr × Obj)), L2N.Zn cls d oe → (∃ vs, oe.data = .fields vs) → PSs (X.suite a ((a, oe) :: pn)) (st :: sts) (ts a cls d)) (r : HdsN X hs l) :
      HdsN X (.ExceptHandler (some (.Name x np)) (some n) (st :: sts) p' :: hs) ((c, some i, ts) :: l)
  | bare {x : Str} {c : Value} {ts : Addr → Value → Option Addr → TS} {st : Stmt} {sts : List Stmt} {np p' : Pos} {hs : List ExceptHandler} {l : List HdT} (hc : Names X x c)
      (hx : ∀ (a : Addr) (oe : Obj) (cls : Value) (d : Option Addr) (pn : List (Addr × Obj)), L2N.Zn cls d oe → (∃ vs, oe.data = .fields vs) → PSs (X.suite a ((a, oe) :: pn)) (st :: sts) (ts a cls d)) (r : HdsN X hs l) :
      HdsN X (.ExceptHandler (some (.Name x np)) none (st :: sts) p' :: hs) ((c, none, ts) :: l)
/-- the ends of a suite whose name goes -/
abbrev endN (i : Nat) (D : Ends) : Ends := { nx := fun σ' H' => D.nx (σ'.set i none) H', rt := D.rt, bk := fun σ' H' => D.bk (σ'.set i none) H', ct := fun σ' H' => D.ct (σ'.set i none) H' }
def wN (K : PySem.W.Frag) (Wo : WX) (D : Ends) : List HdT → WX
  | [] => Wo
  | (c, oi, ts) :: l => fun cls d σ H => ∃ b, PySem.W.exmOne K cls c = some b ∧ (b = true → ∀ a, H a = none → match oi with
      | none => ts a cls d D σ H
      | some i => ts a cls d (endN i D) (σ.set i (some (.ref a))) H) ∧ (b = false → wN K Wo D l cls d σ H)
section
variable {X : Cx} {body : List Stmt} {h0 : ExceptHandler} {hds : List ExceptHandler} {l : List HdT} {pos : Pos} {tb : WX → TS} {Wo : WX}
theorem ps_tryN (hst : X.stack = X.env :: X.outer) (hfr : X.env.frame = some X.env.locals) (hN : X.N.Nodup) (tk : L2N.Takes X Wo)
    (hb : ∀ (W : WX) (pn : List (Addr × Obj)) (xe : Value → Shared → Prop), L2N.Takes (X.tr pn xe) W → PassesOwn (model X.prog X.w) X.A X.env xe → PSs (X.tr pn xe) body (tb W))
    (hh : HdsN X (h0 :: hds) l) : PS X (.Try body (h0 :: hds) [] [] pos) (fun D σ H => tb (wN X.K Wo D l) D σ H) := by
  refine ⟨fun pins s σ H D I h => ?_⟩
  have ok := I.ok
  have fms : X.A.frames = some (X.env :: X.outer) := by rw [ok.frames, hst]
  refine wpAny_Try_except ?_
  have run := (hb (wN X.K Wo D l) (X.pn ++ pins) (fun e s1 => wpAny (model X.prog X.w) X.A (noteFrame e X.env) (fun _ s2 => wpAny (model X.prog X.w) X.A (setFlight e none) (fun _ s3 =>
    wpAny (model X.prog X.w) X.A (handleBy e X.env (h0 :: hds)) (SP X pins D) X.xe s3) X.xe s2) X.xe s1) (fun u s1 xx => ?_) PassesOwn.looking).run [] s σ H D (I.toTry _) h
  · refine wpAny_mono run (fun fl s1 z => ?_) fun e s1 z => z
    cases fl with
    | next =>
      obtain ⟨σ1, H1, J, z⟩ := z
      exact wpAny_execs_nil ⟨σ1, H1, J.ofTry ok, z⟩
    | brk =>
      obtain ⟨σ1, H1, J, z⟩ := z
      exact ⟨σ1, H1, J.ofTry ok, z⟩
    | cont =>
      obtain ⟨σ1, H1, J, z⟩ := z
      exact ⟨σ1, H1, J.ofTry ok, z⟩
    | ret u =>
      obtain ⟨v, σ1, H1, J, rv, z⟩ := z
      exact ⟨v, σ1, H1, J.ofTry ok, rv, z⟩
  · obtain ⟨a, Bh, sI, pns, σ1, H1, cls, d, rfl, J0, nb, up0, sky, na, os, ag, w⟩ := xx
    have J : Inv X pins σ1 H1 sI := J0.ofTry ok
    rw [show (X.tr (X.pn ++ pins) _).stack = X.env :: X.outer from hst] at sky
    show wpAny (model X.prog X.w) X.A (noteFrame (.ref a) X.env) _ _ _
    refine L2N.Sky.land L2N.Zn.steady fms hfr sky fun hz fz upz => ?_
    have Jz : Inv X pins σ1 H1 { s1 with heap := hz } := J.landed nb fz.1 (up0.trans upz) os ag
    obtain ⟨oz, vz, ez, zz, dz⟩ := fz.there
    have nfr : a ∉ frs (X.env :: X.outer) := fun hm => by
      obtain ⟨_, o2, e2, nf2⟩ := fz.2.2.1.mem hm
      rw [ez] at e2
      cases e2
      exact nf2 _ dz
    have nL : a ≠ X.env.locals := fun z => nfr (List.mem_filterMap.mpr ⟨X.env, List.mem_cons_self, by rw [hfr, z]⟩)
    have nF : a ∉ X.fs := fun hm => by
      obtain ⟨e2, m2, q2⟩ := List.mem_filterMap.mp hm
      exact nfr (List.mem_filterMap.mpr ⟨e2, List.mem_cons_of_mem _ m2, q2⟩)
    have Sz := Jz.suite ez dz na nL nF
    have LT : PySem.W.Looks (model X.prog X.w) hz (typeOf (.ref a)) cls := fun A Q E s k q => wpAny_typeOf_ref (k _ _ ez) (by rw [zz.1]; exact q)
    have test : ∀ {x : Str} {c : Value} {np : Pos} {Q E : Value → Shared → Prop}, Names X x c → Q c { s1 with heap := hz } → wpAny (model X.prog X.w) (X.A.mark (some (.ref a))) (eval (.Name x np) X.env) Q E { s1 with heap := hz } := fun {x c np Q E} hc q => by
      obtain ⟨g1, g2, g3 | ⟨g3, g4, g5⟩⟩ := hc
      · exact ld_glob (X := X.suite a ((a, oz) :: (X.pn ++ pins))) Sz g1 g3 q g2
      · exact ld_blt (X := X.suite a ((a, oz) :: (X.pn ++ pins))) Sz g1 g3 g4 q g5 g2
    have go : ∀ {hs' : List ExceptHandler} {l' : List HdT}, HdsN X hs' l' → wN X.K Wo D l' cls d σ1 H1 → wpAny (model X.prog X.w) X.A (handleBy (.ref a) X.env hs') (SP X pins D) X.xe { s1 with heap := hz } := by
      intro hs' l' hk
      induction hk with
      | nil =>
        intro w
        refine wpAny_handleBy_nil ?_
        obtain ⟨f1, f2, f3, o4, v4, T4, oT4, t4, e4, z4, d4, h4, r4⟩ := id fz
        unfold PySem.passOn
        refine wpAny_bind (wpAny_field e4 d4 h4 ?_)
        rw [if_neg (show ¬ ((Value.ref T4 == Value.none) = true) from by simp)]
        have fin : wpAny (model X.prog X.w) X.A (setFlight (.ref a) X.env.frame) (fun _ s4 => wpAny (model X.prog X.w) X.A (throw (.ref a) : Sem Flow) (SP X pins D) X.xe s4) X.xe { s1 with heap := hz } := by
          rw [hfr]
          refine HandSPX.setFlight_upZ fz fun h5 hh5 up5 => wpAny_throw (tk _ _ ?_)
          exact ⟨a, Bh, sI, pins, σ1, H1, cls, d, rfl, J, nb, (up0.trans upz).trans up5, .inr (.inr (by rw [hst]; exact hh5)), na, os, ag, w⟩
        first
          | exact wpAny_bind (wpAny_pure (wpAny_bind fin))
          | exact wpAny_bind fin
      | @named x n i c ts st sts np p' hs2 l2 hc hi hl hx r ih =>
        intro w
        obtain ⟨b, hb1, hy, hn⟩ := w
        refine wpAny_handleBy_cons (codeAny_handlers_test ?_) (by intro z; cases z)
        refine test hc ((PySem.W.exm_one (M := model X.prog X.w) Jz.kIn LT hb1).here ?_)
        cases b with
        | false => exact ih (hn rfl)
        | true =>
          refine codeAny_handlers_suite_as ?_
          refine HandSPX.lands_againZ fz fun h5 f5 up5 => ?_
          have J5 : Inv X pins σ1 H1 { s1 with heap := h5 } := J.landed nb f5.1 ((up0.trans upz).trans up5) os ag
          obtain ⟨o5, v5, e5, z5, d5⟩ := f5.there
          have loc : Loc X.env.scope n := .inl hl
          refine store_ok (X := X.suite a ((a, o5) :: (X.pn ++ pins))) (v := .ref a) (J5.suite e5 d5 na nL nF) hN hi loc rfl (fun s6 S6 => ?_) (.inr hl)
          refine wpAny_mono ((hx a o5 cls d (X.pn ++ pins) z5 ⟨_, d5⟩).run [] s6 _ H1 _ S6 (hy rfl a na)) (fun fl s7 z => ?_) fun _ _ z => z.elim
          have over : ∀ {σ7 : L2.St} {H7 : Hp} {Q : Shared → Prop}, Inv (X.suite a ((a, o5) :: (X.pn ++ pins))) [] σ7 H7 s7 → (∀ s8, Inv X pins (σ7.set i none) H7 s8 → Q s8) →
              wpAny (model X.prog X.w) X.A (do bindName X.env n .none; unbindBehindTheSuite X.env n p') (fun _ s8 => Q s8) X.xe s7 := fun {σ7 H7 Q} S7 hq => gone_ok (S7.unsuite ok) hN hi hl hq
          cases fl with
          | next =>
            obtain ⟨σ7, H7, S7, z⟩ := z
            exact over S7 fun s8 J8 => ⟨_, _, J8, z⟩
          | brk =>
            obtain ⟨σ7, H7, S7, z⟩ := z
            exact over S7 fun s8 J8 => ⟨_, _, J8, z⟩
          | cont =>
            obtain ⟨σ7, H7, S7, z⟩ := z
            exact over S7 fun s8 J8 => ⟨_, _, J8, z⟩
          | ret u =>
            obtain ⟨v7, σ7, H7, S7, rv, z⟩ := z
            exact over S7 fun s8 J8 => ⟨_, _, _, J8, rv, z⟩
      | @bare x c ts st sts np p' hs2 l2 hc hx r ih =>
        intro w
        obtain ⟨b, hb1, hy, hn⟩ := w
        refine wpAny_handleBy_cons (codeAny_handlers_test ?_) (by intro z; cases z)
        refine test hc ((PySem.W.exm_one (M := model X.prog X.w) Jz.kIn LT hb1).here ?_)
        cases b with
        | false => exact ih (hn rfl)
        | true =>
          refine codeAny_handlers_suite ?_
          refine HandSPX.lands_againZ fz fun h5 f5 up5 => ?_
          have J5 : Inv X pins σ1 H1 { s1 with heap := h5 } := J.landed nb f5.1 ((up0.trans upz).trans up5) os ag
          obtain ⟨o5, v5, e5, z5, d5⟩ := f5.there
          refine wpAny_mono ((hx a o5 cls d (X.pn ++ pins) z5 ⟨_, d5⟩).run [] _ _ H1 _ (J5.suite e5 d5 na nL nF) (hy rfl a na)) (fun fl s7 z => ?_) fun _ _ z => z.elim
          cases fl with
          | next =>
            obtain ⟨σ7, H7, S7, z⟩ := z
            exact ⟨_, _, S7.unsuite ok, z⟩
          | brk =>
            obtain ⟨σ7, H7, S7, z⟩ := z
            exact ⟨_, _, S7.unsuite ok, z⟩
          | cont =>
            obtain ⟨σ7, H7, S7, z⟩ := z
            exact ⟨_, _, S7.unsuite ok, z⟩
          | ret u =>
            obtain ⟨v7, σ7, H7, S7, rv, z⟩ := z
            exact ⟨_, _, _, S7.unsuite ok, rv, z⟩
    exact go hh w
end
end PD
end PartPDH

section PartPDI
set_option Elab.async false
set_option linter.all false
set_option maxRecDepth 100000
set_option maxHeartbeats 4000000
/-! ### raise and try on plain data -/
namespace PD
open PySem L2 PySem.Spec PyProof.Rows

def sErr0 (c : Nat) : XS := fun r => .err r c []
def sErr1 (c : Nat) (fe : XE) : XS := fun r => match fe r with
  | .ok (r1, t) => if isSh t then .err r1 c [t] else .stuck
  | .err r1 c fs => .err r1 c fs
  | .stuck => .stuck
section
variable {G : Gm} {W : WX} {X : Cx} {c f k : Nat} {x xn : Str} {e : Expr} {fe : XE} {p pos pos' : Pos}
theorem ds_raise0 (hc : X.calm = true) (tk : L2N.Takes X W) (F : Ini0 X.K X.mg (G.cls c) xn) (hg : Gl X xn := by rfl) (hdb : (xn == ("__debug__" : Str)) = false := by decide) : PS X (.Raise (some (.Call (.Name xn p) [] [] pos')) none pos) (dS G W (sErr0 c)) :=
  PS.imp (L2N.ps_raise hc tk (pmk_init0 F hg hdb).pmk) fun D σ H ⟨B, r, ini, h⟩ => h none B H σ (SS.refl ini) rfl
theorem ds_raise1 (hc : X.calm = true) (tk : L2N.Takes X W) (F : InitF X.prog X.w X.K X.mg (G.cls c) f x) (hr : Room (k + 1) X.A) (hm : X.mg xn = some (.ref (G.cls c))) (he : PE X e (dE G W fe)) (hfl : G.flds c = [x] := by rfl) (hg : Gl X xn := by rfl) (hdb : (xn == ("__debug__" : Str)) = false := by decide)
    (hs : starEach [e] X.env = (false, eval e X.env) :: starEach [] X.env := by rfl) : PS X (.Raise (some (.Call (.Name xn p) [e] [] pos')) none pos) (dS G W (sErr1 c fe)) :=
  PS.imp (L2N.ps_raise hc tk (pmk_init F (L2H.roomH_of hr) hm (da_cons he da_nil hs) hg hdb hs).pmk) fun D σ H h => by
  obtain ⟨B, r, ini, h⟩ := h
  refine ⟨B, r, ini, ?_⟩
  unfold sErr1 at h
  unfold aC aN
  cases e1 : fe r with
  | ok pr =>
    obtain ⟨r1, t⟩ := pr
    rw [e1] at h
    intro vs B1 H1 s
    cases vs with
    | nil => cases s.lv
    | cons v vs =>
      cases vs with
      | cons _ _ => cases s.lv
      | nil =>
        refine ⟨v, rfl, fun d nd => ?_⟩
        cases q : isSh t with
        | false =>
          have h : dSp G W D σ B H r (if isSh t = true then .err r1 c [t] else .stuck) := h
          rw [q] at h
          exact h.elim
        | true =>
          have h : dSp G W D σ B H r (if isSh t = true then .err r1 c [t] else .stuck) := h
          rw [q] at h
          have hs := (s.rep (i := 0) (v := v) (t := t) rfl rfl).sh q
          have sB : Same B1 (upd B1 d (.xd [(x, v)])) := fun b u e => by
            rw [upd_ne (ne_of_none e (s.init.st.free nd).1)]
            exact e
          refine h (some d) _ _ σ (s.news (o := .xd [(x, v)]) nd).ss0 ⟨d, [v], rfl, ?_, by rw [hfl]; rfl, SRep.mono sB _ _ hs, trivial⟩
          rw [hfl, upd_same]
          rfl
  | err r1 c fs =>
    rw [e1] at h
    exact wErrS.of h
  | stuck =>
    rw [e1] at h
    exact h
end

/-! ### try -/
/-- behind a suite whose name stood in slot i -/
def clr (i : Nat) : Res Out → Res Out
  | .ok (.nx r) => if lent (r[i]?.join) then .stuck else .ok (.nx (r.set i none))
  | .ok (.bk r) => if lent (r[i]?.join) then .stuck else .ok (.bk (r.set i none))
  | .ok (.ct r) => if lent (r[i]?.join) then .stuck else .ok (.ct (r.set i none))
  | .ok (.rt r t) => .ok (.rt r t)
  | .err _ _ _ => .stuck
  | .stuck => .stuck
/-- behind a suite without a name -/
def clr0 : Res Out → Res Out
  | .err _ _ _ => .stuck
  | o => o
structure Hd where
  tb : List (Nat × Bool)
  i : Option Nat
  code : Nat → List T → XS
def runHd : List Hd → Env → Nat → List T → Res Out
  | [], r, c, fs => .err r c fs
  | h :: l, r, c, fs => match h.tb.lookup c with
    | some true => (match h.i with
      | some i => if lent (r[i]?.join) || decide (r.length ≤ i) then .stuck else clr i (h.code c fs (r.set i none))
      | none => clr0 (h.code c fs r))
    | some false => runHd l r c fs
    | none => .stuck
def sTry (fb : XS) (l : List Hd) : XS := fun r => match fb r with
  | .err r1 c fs => runHd l r1 c fs
  | o => o
abbrev Gm.in (G : Gm) (B : Hp) (q : Option (Nat × V)) : Gm := ⟨G.toGam, B, q⟩
abbrev noX : WX := fun _ _ _ _ => False
/-- what the suite of a clause is to do -/
def rdHd (G : Gm) (h : Hd) : Addr → Value → Option Addr → TS := fun a cls d D σ H => ∃ B c fs, cls = .ref (G.cls c) ∧ ExR G B c fs d ∧ dS (G.in B (h.i.map fun i => (i, .ref a))) noX (h.code c fs) D σ H
section
variable {G : Gm} {W : WX} {X : Cx}
theorem SS.toIn {q : Option (Nat × V)} {B H : Hp} {σ : L2.St} {r : Env} {B1 H1 : Hp} {σ1 : L2.St} {r1 : Env} {vs : List V} {ts : List T} (s : SS (G.in B q) B H σ r B1 H1 σ1 r1 vs ts) (hf : Same G.fl B) (hp : G.P σ1) : SS G B H σ r B1 H1 σ1 r1 vs ts :=
  ⟨s.len, s.ls, s.lv, s.nr, s.rn, s.kp, ⟨⟨s.stp.st.sub, s.stp.st.rep, s.stp.st.sep, hf.trans s.stp.ex⟩, s.stp.ex, s.stp.fr, s.stp.nw, s.stp.ww, s.stp.nb⟩, hp⟩
/-- a slot is given up -/
theorem SS.clear {B H : Hp} {σ : L2.St} {r : Env} {B1 H1 : Hp} {σ1 : L2.St} {r1 : Env} {vs : List V} {ts : List T} (s : SS G B H σ r B1 H1 σ1 r1 vs ts) {i : Nat} (o : Option V) (hl : lent (r1[i]?.join) = false) (hp : G.P (σ1.set i o)) :
    SS G B H σ r B1 H1 (σ1.set i o) (r1.set i none) vs ts := by
  have e0 : zl (σ1.set i o) (r1.set i none) = (zl σ1 r1).set i (o, none) := zip_set _ _ _ _ _
  have st := s.stp.st
  have hm : ∀ e, e ∈ (zl σ1 r1).set i (o, none) ++ prs vs ts → e ∈ zl σ1 r1 ++ prs vs ts ∨ e = (o, none) := fun e he => by
    rcases List.mem_append.mp he with q | q
    · rcases List.mem_or_eq_of_mem_set q with q | q
      · exact .inl (List.mem_append_left _ q)
      · exact .inr q
    · exact .inl (List.mem_append_right _ q)
  have na : ∀ a, adr (o, none) ≠ some a := fun a z => by
    obtain ⟨_, _, _, e, _⟩ := adr_own z
    cases e
  have ow : ∀ a, Own ((zl σ1 r1).set i (o, none) ++ prs vs ts) a → Own (zl σ1 r1 ++ prs vs ts) a := fun a ⟨e, he, ha⟩ => by
    rcases hm e he with q | q
    · exact ⟨e, q, ha⟩
    · subst q
      exact absurd ha (na a)
  have ww : ∀ a, Wr ((zl σ1 r1).set i (o, none) ++ prs vs ts) a → Wr (zl σ1 r1 ++ prs vs ts) a := fun a ⟨f, k, xs, he, hf⟩ => by
    rcases hm _ he with q | q
    · exact ⟨f, k, xs, q, hf⟩
    · cases q
  refine { len := by rw [List.length_set, List.length_set, s.len], ls := by rw [List.length_set, s.ls], lv := s.lv, nr := ?_, rn := s.rn, kp := ?_, stp := ?_, ps := hp }
  · rw [e0]
    intro e he j ej
    rcases List.mem_or_eq_of_mem_set he with q | q
    · exact s.nr e q j ej
    · subst q
      cases ej
  · rw [e0]
    intro j w f k xs e l
    obtain ⟨ys, e1⟩ := s.kp j w f k xs e l
    have nij : i ≠ j := fun q => by
      subst q
      have e2 := (zl_get e1).2
      rw [e2] at hl
      rcases l with l | l
      · subst l
        cases hl
      · subst l
        cases hl
    exact ⟨ys, by rw [List.getElem?_set_ne nij]; exact e1⟩
  · rw [e0]
    have z := s.stp
    refine { st := ⟨st.sub, fun e he => ?_, ?_, st.floor⟩, ex := z.ex, fr := z.fr, nw := fun a h => z.nw a (ow a h), ww := fun a h => z.ww a (ww a h), nb := z.nb }
    · rcases hm e he with q | q
      · exact rep_idx (fun j y ej _ => by
          rcases List.mem_append.mp q with q | q
          · exact absurd (s.nr e q j ej) (Nat.not_lt_zero j)
          · exact absurd (s.rn e q j ej) (Nat.not_lt_zero j)) (st.rep e q)
      · subst q
        cases o <;> exact trivial
    · have p := List.pairwise_append.mp st.sep
      refine List.pairwise_append.mpr ⟨pw_set sep_sy i (List.pairwise_append.mpr ⟨p.1, List.pairwise_singleton _ _, fun e he e' he' a ha ha' => ?_⟩), p.2.1, fun e he e' he' a ha ha' => ?_⟩
      · have q := List.mem_singleton.mp he'
        subst q
        exact na a ha'
      · rcases List.mem_or_eq_of_mem_set he with q | q
        · exact p.2.2 e q e' he' a ha ha'
        · subst q
          exact na a ha
theorem wN_of {K : PySem.W.Frag} {D : Ends} {B H : Hp} {σ : L2.St} {r : Env} {d : Option Addr} {B1 H1 : Hp} {σ1 : L2.St} {c : Nat} {fs : List T} : ∀ {l : List (Value × Hd)} {r1 : Env}, (∀ q ∈ l, ∀ c b, q.2.tb.lookup c = some b → PySem.W.exmOne K (.ref (G.cls c)) q.1 = some b) →
    G.pin = none → SS G B H σ r B1 H1 σ1 r1 [] [] → ExR G B1 c fs d → dSp G W D σ B H r (runHd (l.map (·.2)) r1 c fs) → wN K W D (l.map fun q => (q.1, q.2.i, rdHd G q.2)) (.ref (G.cls c)) d σ1 H1
  | [], r1, _, _, s, x, h => h d B1 H1 σ1 s x
  | (cv, hd) :: l, r1, hE, hG, s, x, h => by
    have hP : ∀ σ, G.P σ := fun σ => by
      unfold Gm.P
      rw [hG]
      exact True.intro
    have fl : Same G.fl B1 := s.init.st.floor
    have h : dSp G W D σ B H r (runHd (hd :: l.map (·.2)) r1 c fs) := h
    unfold runHd at h
    cases e : hd.tb.lookup c with
    | none =>
      simp only [e] at h
      exact h.elim
    | some b =>
      simp only [e] at h
      refine ⟨b, hE (cv, hd) List.mem_cons_self c b e, fun eb a na => ?_, fun eb => ?_⟩
      · subst eb
        dsimp only at h
        cases ei : hd.i with
        | none =>
          simp only [ei] at h
          refine ⟨B1, c, fs, rfl, x, ?_⟩
          rw [ei]
          have ini := s.init
          refine ⟨B1, r1, ⟨ini.len, ini.nr, ⟨ini.st.sub, ini.st.rep, ini.st.sep, Same.refl _⟩, True.intro⟩, ?_⟩
          cases eo : hd.code c fs r1 with
          | ok o =>
            rw [eo] at h
            cases o with
            | nx r2 => exact fun σ2 B2 H2 q => h σ2 B2 H2 (s.app (q.toIn fl (hP _)))
            | bk r2 => exact fun σ2 B2 H2 q => h σ2 B2 H2 (s.app (q.toIn fl (hP _)))
            | ct r2 => exact fun σ2 B2 H2 q => h σ2 B2 H2 (s.app (q.toIn fl (hP _)))
            | rt r2 t => exact fun v σ2 B2 H2 q => h v σ2 B2 H2 (s.app (q.toIn fl (hP _)))
          | err r2 c2 fs2 =>
            rw [eo] at h
            exact h.elim
          | stuck =>
            rw [eo] at h
            exact h.elim
        | some i =>
          simp only [ei] at h
          cases eq : (lent (r1[i]?.join) || decide (r1.length ≤ i)) with
          | true =>
            simp only [eq, if_true] at h
            exact h.elim
          | false =>
            simp only [eq, Bool.false_eq_true, if_false] at h
            obtain ⟨q1, q2⟩ := Bool.or_eq_false_iff.mp eq
            have lt : i < r1.length := Nat.lt_of_not_le (of_decide_eq_false q2)
            have s2 := s.clear (some (.ref a)) q1 (hP _)
            have ini := s2.init
            refine ⟨B1, c, fs, rfl, x, ?_⟩
            rw [ei]
            refine ⟨B1, r1.set i none, ⟨ini.len, ini.nr, ⟨ini.st.sub, ini.st.rep, ini.st.sep, Same.refl _⟩, ?_⟩, ?_⟩
            · show (σ1.set i (some (V.ref a)))[i]? = some (some (V.ref a))
              exact List.getElem?_set_self (by rw [s.len]; exact lt)
            · cases eo : hd.code c fs (r1.set i none) with
              | ok o =>
                rw [eo] at h
                cases o with
                | nx r2 =>
                  intro σ2 B2 H2 q
                  have q3 := s2.app (q.toIn fl (hP _))
                  unfold clr at h
                  cases el : lent (r2[i]?.join) with
                  | true =>
                    simp only [el, if_true] at h
                    exact h.elim
                  | false =>
                    simp only [el, Bool.false_eq_true, if_false] at h
                    exact h _ B2 H2 (q3.clear none el (hP _))
                | bk r2 =>
                  intro σ2 B2 H2 q
                  have q3 := s2.app (q.toIn fl (hP _))
                  unfold clr at h
                  cases el : lent (r2[i]?.join) with
                  | true =>
                    simp only [el, if_true] at h
                    exact h.elim
                  | false =>
                    simp only [el, Bool.false_eq_true, if_false] at h
                    exact h _ B2 H2 (q3.clear none el (hP _))
                | ct r2 =>
                  intro σ2 B2 H2 q
                  have q3 := s2.app (q.toIn fl (hP _))
                  unfold clr at h
                  cases el : lent (r2[i]?.join) with
                  | true =>
                    simp only [el, if_true] at h
                    exact h.elim
                  | false =>
                    simp only [el, Bool.false_eq_true, if_false] at h
                    exact h _ B2 H2 (q3.clear none el (hP _))
                | rt r2 t => exact fun v σ2 B2 H2 q => h v σ2 B2 H2 (s2.app (q.toIn fl (hP _)))
              | err r2 c2 fs2 =>
                rw [eo] at h
                exact h.elim
              | stuck =>
                rw [eo] at h
                exact h.elim
      · subst eb
        exact wN_of (fun q hq => hE q (List.mem_cons_of_mem _ hq)) hG s x h
/-- the clauses of a try, each with its class and its code -/
inductive HdsD (G : Gm) (X : Cx) : List ExceptHandler → List (Value × Hd) → Prop
  | nil : HdsD G X [] []
  | named {x n : Str} {i : Nat} {c : Value} {tb : List (Nat × Bool)} {code : Nat → List T → XS} {st : Stmt} {sts : List Stmt} {np p' : Pos} {hs : List ExceptHandler} {l : List (Value × Hd)} (hc : Names X x c) (hi : X.N[i]? = some n) (hl : X.env.kindOf n = some .local)
      (hE : ∀ k b, tb.lookup k = some b → PySem.W.exmOne X.K (.ref (G.cls k)) c = some b)
      (hx : ∀ (a : Addr) (oe : Obj) (k : Nat) (fs : List T) (d : Option Addr) (B : Hp) (pn : List (Addr × Obj)), L2N.Zn (.ref (G.cls k)) d oe → (∃ vs, oe.data = .fields vs) → ExR G B k fs d → PSs (X.suite a ((a, oe) :: pn)) (st :: sts) (dS (G.in B (some (i, .ref a))) noX (code k fs))) (r : HdsD G X hs l) :
      HdsD G X (.ExceptHandler (some (.Name x np)) (some n) (st :: sts) p' :: hs) ((c, ⟨tb, some i, code⟩) :: l)
  | bare {x : Str} {c : Value} {tb : List (Nat × Bool)} {code : Nat → List T → XS} {st : Stmt} {sts : List Stmt} {np p' : Pos} {hs : List ExceptHandler} {l : List (Value × Hd)} (hc : Names X x c)
      (hE : ∀ k b, tb.lookup k = some b → PySem.W.exmOne X.K (.ref (G.cls k)) c = some b)
      (hx : ∀ (a : Addr) (oe : Obj) (k : Nat) (fs : List T) (d : Option Addr) (B : Hp) (pn : List (Addr × Obj)), L2N.Zn (.ref (G.cls k)) d oe → (∃ vs, oe.data = .fields vs) → ExR G B k fs d → PSs (X.suite a ((a, oe) :: pn)) (st :: sts) (dS (G.in B none) noX (code k fs))) (r : HdsD G X hs l) :
      HdsD G X (.ExceptHandler (some (.Name x np)) none (st :: sts) p' :: hs) ((c, ⟨tb, none, code⟩) :: l)
theorem HdsD.hE {hs : List ExceptHandler} {l : List (Value × Hd)} (h : HdsD G X hs l) : ∀ q ∈ l, ∀ c b, q.2.tb.lookup c = some b → PySem.W.exmOne X.K (.ref (G.cls c)) q.1 = some b := by
  induction h with
  | nil => exact fun q hq => by cases hq
  | named hc hi hl hE hx r ih =>
    intro q hq
    rcases List.mem_cons.mp hq with e | hq
    · subst e
      exact hE
    · exact ih q hq
  | bare hc hE hx r ih =>
    intro q hq
    rcases List.mem_cons.mp hq with e | hq
    · subst e
      exact hE
    · exact ih q hq
theorem HdsD.ofN {hs : List ExceptHandler} {l : List (Value × Hd)} (h : HdsD G X hs l) : HdsN X hs (l.map fun q => (q.1, q.2.i, rdHd G q.2)) := by
  induction h with
  | nil => exact .nil
  | named hc hi hl hE hx r ih =>
    refine .named hc hi hl (fun a oe cls d pn hz hd => ⟨fun pins s σ H D I h => ?_⟩) ih
    obtain ⟨B, k, fs, e, x, h⟩ := h
    subst e
    exact (hx a oe k fs d B pn hz hd x).run pins s σ H D I h
  | bare hc hE hx r ih =>
    refine .bare hc (fun a oe cls d pn hz hd => ⟨fun pins s σ H D I h => ?_⟩) ih
    obtain ⟨B, k, fs, e, x, h⟩ := h
    subst e
    exact (hx a oe k fs d B pn hz hd x).run pins s σ H D I h
theorem ds_try {body : List Stmt} {h0 : ExceptHandler} {hds : List ExceptHandler} {l : List (Value × Hd)} {pos : Pos} {fb : XS} (hN : X.N.Nodup) (tk : L2N.Takes X W) (hst : X.stack = X.env :: X.outer) (hfr : X.env.frame = some X.env.locals)
    (hb : ∀ (W : WX) (pn : List (Addr × Obj)) (xe : Value → Shared → Prop), L2N.Takes (X.tr pn xe) W → PassesOwn (model X.prog X.w) X.A X.env xe → PSs (X.tr pn xe) body (dS G W fb))
    (hh : HdsD G X (h0 :: hds) l) {hl : List Hd} (he : l.map (·.2) = hl := by rfl) (hG : G.pin = none := by rfl) : PS X (.Try body (h0 :: hds) [] [] pos) (dS G W (sTry fb hl)) := by
  subst he
  refine PS.imp (ps_tryN hst hfr hN tk hb hh.ofN) fun D σ H h => ?_
  obtain ⟨B, r, ini, h⟩ := h
  refine ⟨B, r, ini, ?_⟩
  unfold sTry at h
  cases e : fb r with
  | ok o =>
    rw [e] at h
    cases o <;> exact h
  | stuck =>
    rw [e] at h
    exact h
  | err r1 c fs =>
    rw [e] at h
    exact fun d B1 H1 σ1 s x => wN_of hh.hE hG s x h
theorem takesF {a : Addr} {pn : List (Addr × Obj)} : L2N.Takes (X.suite a pn) noX := fun _ _ ⟨_, _, _, _, _, _, _, _, _, _, _, _, _, _, _, _, w⟩ => w.elim
end
end PD
end PartPDI

section PartPDJ
set_option Elab.async false
set_option linter.all false
set_option maxRecDepth 100000
set_option maxHeartbeats 4000000
/-! ### isinstance, the fields of a caught error -/
namespace PD
open PySem L2 PySem.Spec PyProof.Rows

inductive Tg where
  | int | bl | str | non | flt | lst | tup | ins (c : Nat)
  deriving DecidableEq
def tgV (G : Gam) : Tg → Value
  | .int => .type "int"
  | .bl => .type "bool"
  | .str => .type "str"
  | .non => .type "NoneType"
  | .flt => .type "float"
  | .lst => .type "list"
  | .tup => .type "tuple"
  | .ins c => .ref (G.cls c)
def tgOf (r : Env) (t : T) : Option Tg := match pk r t with
  | .sc (.int _) => some .int
  | .sc (.bl _) => some .bl
  | .sc (.str _) => some .str
  | .sc .non => some .non
  | .sc (.flt _) => some .flt
  | .nd _ .lst _ => some .lst
  | .nd _ .fro _ => some .lst
  | .nd _ .tup _ => some .tup
  | .nd _ (.ins c) _ => some (.ins c)
  | _ => none
def isiK (tb : List (Tg × Bool)) (r : Env) (t : T) : Res (Env × T) := match tgOf r t with
  | some g => (match tb.lookup g with
    | some b => .ok (r, .sc (.bl b))
    | none => .stuck)
  | none => .stuck
def eIsI (tb : List (Tg × Bool)) (fx : XE) : XE := un fx (isiK tb)
/-- an own class whose instances isinstance may be asked of -/
structure IsC (K : PySem.W.Frag) (C : Addr) : Prop where
  cl : Cls K C
  ha : PySem.W.findIn K (.ref C) "__class__" = some (some (.builtin "object.__class__"))
  hn : PySem.W.specialIn K (.builtin "object.__class__") "__get__" = some (some (.builtin "getset_descriptor.__get__"))
  ht : PySem.W.takesIn K (.builtin "object.__class__") = some true
  hm : PySem.W.mroIn K C (.type "object") = some true
def TgOk (K : PySem.W.Frag) (G : Gam) : Tg → Prop
  | .ins c => IsC K (G.cls c)
  | _ => True
section
variable {G : Gm} {W : WX} {X : Cx} {B H B1 H1 : Hp} {σ : L2.St} {r r1 : Env} {vs : List V} {ts : List T}
theorem ty_of (hK : G.K = X.K) (s : ES G B H σ r B1 H1 r1 vs ts) {v : V} {t : T} {g : Tg} {i : Nat} (h1 : vs[i]? = some v) (h2 : ts[i]? = some t) (hg : tgOf r1 t = some g) (ok : TgOk X.K G g) : TyX X.K H1 v (tgV G g) := by
  unfold tgOf at hg
  have scal : ∀ {u : V}, pk r1 t = .sc u → v = u := fun {u} e => by
    cases t with
    | sc w =>
      have e2 := s.sc h1 h2
      cases e
      exact e2
    | nd _ _ _ => cases e
    | rf j =>
      exfalso
      obtain ⟨f', k', xs', h3⟩ := s.rep h1 h2
      have lt : j < (zl σ r).length := s.es.rn _ (prs_mem h1 h2) j rfl
      rw [List.getElem?_append_left (by rw [s.es.len]; exact lt)] at h3
      have h4 := (zl_get h3).2
      unfold pk at e
      simp only [h4] at e
      cases e
  cases e : pk r1 t with
  | rf j =>
    rw [e] at hg
    cases hg
  | sc u =>
    have e2 := scal e
    subst e2
    rw [e] at hg
    cases v <;> cases hg <;> first | exact .base (.int _) | exact .base (.bl _) | exact .base (.str _) | exact .base .non | exact .base (.flt _)
  | nd f k xs =>
    rw [e] at hg
    obtain ⟨a, ws, rfl, hs, _⟩ := s.rd h1 h2 e
    cases k with
    | lst =>
      cases hg
      exact .base (.lst hs)
    | fro =>
      cases hg
      have hs : SqL G.K H1 a ws := hs
      rw [hK] at hs
      rcases hs with (hs | ⟨o, hs⟩) | ⟨o, its, n, e1, e2, _⟩
      · exact .base (.lst hs)
      · exact .base (.frz hs)
      · exact .kList e1 e2
    | tup =>
      cases hg
      have hs : SqT G.K H1 a ws := hs
      rw [hK] at hs
      rcases hs with (hs | ⟨o, hs⟩) | ⟨o, its, n, e1, e2, _⟩
      · exact .base (.tup hs)
      · exact .fTuple hs
      · exact .kTuple e1 e2
    | ins c =>
      cases hg
      obtain ⟨dx, hs, _⟩ := hs
      obtain ⟨c1, c2, c3, c4, c5⟩ := (show IsC X.K (G.cls c) from ok)
      exact .base (.ins hs c1 c2 c3 c4 c5)
theorem boot_isi : bootBuiltins "isinstance" = some (.builtin "isinstance") := by decide +kernel
theorem de_isi {p pos : Pos} {xe ce : Expr} {fx : XE} {tb : List (Tg × Bool)} {cV : V} {u : Value} (hK : G.K = X.K) (hm : X.mg "isinstance" = none) (hx : PE X xe (dE G W fx)) (hc : PE X ce (tC cV)) (hu : ClsV cV u) (hT : ∀ g b, tb.lookup g = some b → TgOk X.K G g ∧ PySem.W.kitOne X.K (tgV G g) u = some b)
    (hg : Gl X "isinstance" := by rfl) (he : starEach [xe, ce] X.env = (false, eval xe X.env) :: starEach [ce] X.env := by rfl) (hpl : (backTo pos (starEach [ce] X.env)).any (·.1) = false := by rfl) (he2 : starEach [ce] X.env = (false, eval ce X.env) :: starEach [] X.env := by rfl) :
    PE X (.Call (.Name "isinstance" p) [xe, ce] [] pos) (dE G W (eIsI tb fx)) := PE.imp (pe_callB call_isi hg hm boot_isi (pa_cons hx (pa_cons hc pa_nil he2) he) (by decide) (by decide) he hpl) fun σ H Q h => by
  refine un_w (q := fun x H1 Q => rIsi X.K [x, cV] H1 Q) (fun σ Q B H r B1 H1 r1 v1 t1 s h => ?_) σ H Q h
  unfold isiK at h
  cases e1 : tgOf r1 t1 with
  | none =>
    rw [e1] at h
    exact h.elim
  | some g =>
    simp only [e1] at h
    cases e2 : tb.lookup g with
    | none =>
      rw [e2] at h
      exact h.elim
    | some b =>
      rw [e2] at h
      obtain ⟨k1, k2⟩ := hT g b e2
      exact ⟨v1, cV, _, u, b, rfl, hu, ty_of hK s (i := 0) rfl rfl e1 k1, k2, h (.bl b) B1 H1 (s.put (v := .bl b) (t := .sc (.bl b)) rfl)⟩

/-! ### a caught error -/
def eXf (tb : List (Nat × Nat)) (c : Nat) (fs : List T) : XE := fun r => match tb.lookup c with
  | some j => (match fs[j]? with
    | some t => .ok (r, t)
    | none => .stuck)
  | none => .stuck
structure XfOk (K : PySem.W.Frag) (G : Gam) (m : Str) (c j : Nat) : Prop where
  xf : XfC K (G.cls c)
  no : PySem.W.findIn K (.ref (G.cls c)) m = some none
  ix : fix (G.flds c) m = some j
section
variable {a : Addr} {oe : Obj} {c i : Nat} {fs : List T} {d : Option Addr} {B0 : Hp} {pn : List (Addr × Obj)} {q : Option (Nat × V)}
theorem ExR.at {B1 : Hp} (x : ExR G B0 c fs d) (hs : Same B0 B1) {j : Nat} {t : T} (h : fs[j]? = some t) : ∃ dd vs v, d = some dd ∧ B1 dd = some (.xd ((G.flds c).zip vs)) ∧ vs[j]? = some v ∧ SRep G B1 v t := by
  unfold ExR at x
  cases fs with
  | nil => cases h
  | cons t0 ts0 =>
    obtain ⟨dd, vs, e1, e2, _, e3⟩ := x
    obtain ⟨v, hv, hr⟩ := (SRepL.mono hs _ _ e3).get h
    exact ⟨dd, vs, v, e1, hs _ _ e2, hv, hr⟩
/-- e.f -/
theorem de_xf {n en : Str} {tb : List (Nat × Nat)} {p pos : Pos} (hz : L2N.Zn (.ref (G.cls c)) d oe) (hf : ∃ vs, oe.data = .fields vs) (x : ExR G B0 c fs d) (hX : ∀ c j, tb.lookup c = some j → XfOk X.K G n c j)
    (hv : PE (X.suite a ((a, oe) :: pn)) (.Name en p) (tVar i) := by exact pv _)
    (hb : attributeBase (.Name en p) n X.env (eval (.Name en p) X.env) = eval (.Name en p) X.env := by rfl) : PE (X.suite a ((a, oe) :: pn)) (.Attribute (.Name en p) n pos) (dE (G.in B0 (some (i, .ref a))) W (eXf tb c fs)) := by
  cases e1 : tb.lookup c with
  | none =>
    refine ⟨fun pins s σ H Q I h => ?_⟩
    obtain ⟨B, r, ini, h⟩ := h
    unfold eXf at h
    rw [e1] at h
    exact h.elim
  | some j =>
    obtain ⟨k1, k2, k3⟩ := hX c j e1
    refine PE.imp (pe_xf (X := X) k1 k2 hz.zc hf hv hb) fun σ H Q h => ?_
    obtain ⟨B, r, ini, h⟩ := h
    unfold eXf at h
    rw [e1] at h
    have hp : σ[i]? = some (some (V.ref a)) := ini.ps
    cases e2 : fs[j]? with
    | none =>
      simp only [e2] at h
      exact h.elim
    | some t =>
      simp only [e2] at h
      obtain ⟨dd, vs, v, ed, eB, ev, er⟩ := x.at ini.st.floor e2
      exact ⟨.ref a, hp, rfl, rfl, dd, _, v, ed, ini.st.sub _ _ eB, fix_zip k3 ev, h v B H (ini.es.put er)⟩
def eIsE (tb : List (Nat × Bool)) (c : Nat) : XE := fun r => match tb.lookup c with
  | some b => .ok (r, .sc (.bl b))
  | none => .stuck
structure ExcI (K : PySem.W.Frag) (D : Addr) : Prop where
  hg : PySem.W.findIn K (.ref D) "__getattribute__" = some (some (.builtin "BaseException.__getattribute__"))
  hk : PySem.W.findIn K (.ref D) "__getattr__" = some none
  hs : PySem.W.subIn K (.ref D) (.type "BaseException") = some true
  hd : (PySem.W.clsIn K D).isSome = true
  ha : PySem.W.findIn K (.ref D) "__class__" = some (some (.builtin "object.__class__"))
  hn : PySem.W.specialIn K (.builtin "object.__class__") "__get__" = some (some (.builtin "getset_descriptor.__get__"))
  ht : PySem.W.takesIn K (.builtin "object.__class__") = some true
  hm : PySem.W.mroIn K D (.type "object") = some true
theorem inst_exc {pins : List (Addr × Obj)} {σ : L2.St} {H : Hp} {s : Shared} (hz : L2N.Zn (.ref (G.cls c)) d oe) (hf : ∃ vs, oe.data = .fields vs) (x : ExR G B0 c fs d) (hH : Same B0 H) (I : Inv (X.suite a ((a, oe) :: pn)) pins σ H s) : ∃ od, PySem.W.InstAt s.heap a oe (G.cls c) od := by
  obtain ⟨ha, _⟩ := I.pin (a, oe) (List.mem_append_left _ List.mem_cons_self)
  obtain ⟨vs, hd⟩ := hf
  have nc : PySem.W.notCls oe = true := by
    unfold PySem.W.notCls
    rw [hd]
  unfold ExR at x
  cases fs with
  | nil =>
    subst x
    exact ⟨none, ha, hz.1, nc, by rw [hz.2.1]; trivial⟩
  | cons t0 ts0 =>
    obtain ⟨dd, ws, e1, e2, _, _⟩ := x
    subst e1
    have hx : ObjOk X.prog X.w H s.heap dd (.xd _) := I.hok dd _ (hH _ _ e2)
    obtain ⟨mA, hns, _⟩ := hx
    obtain ⟨od, ho, _⟩ := lookIn_ns hns
    exact ⟨some od, ha, hz.1, nc, by rw [hz.2.1]; exact ho⟩
/-- isinstance(e, C) -/
theorem de_isE {en : Str} {tb : List (Nat × Bool)} {ce : Expr} {cV : V} {u : Value} {p pe pos : Pos} (hz : L2N.Zn (.ref (G.cls c)) d oe) (hf : ∃ vs, oe.data = .fields vs) (x : ExR G B0 c fs d) (hm : X.mg "isinstance" = none)
    (hT : ∀ c b, tb.lookup c = some b → ExcI X.K (G.cls c) ∧ PySem.W.kitOne X.K (.ref (G.cls c)) u = some b) (hc : PE (X.suite a ((a, oe) :: pn)) ce (tC cV)) (hu : ClsV cV u) (hv : PE (X.suite a ((a, oe) :: pn)) (.Name en pe) (tVar i) := by exact pv _)
    (hg : Gl X "isinstance" := by rfl) (he : starEach [.Name en pe, ce] X.env = (false, eval (.Name en pe) X.env) :: starEach [ce] X.env := by rfl) (hpl : (backTo pos (starEach [ce] X.env)).any (·.1) = false := by rfl) (he2 : starEach [ce] X.env = (false, eval ce X.env) :: starEach [] X.env := by rfl) :
    PE (X.suite a ((a, oe) :: pn)) (.Call (.Name "isinstance" p) [.Name en pe, ce] [] pos) (dE (G.in B0 (some (i, .ref a))) W (eIsE tb c)) := by
  refine ⟨fun pins s σ H Q I h => ?_⟩
  obtain ⟨B, r, ini, h⟩ := h
  unfold eIsE at h
  cases e1 : tb.lookup c with
  | none =>
    rw [e1] at h
    exact h.elim
  | some b =>
    rw [e1] at h
    obtain ⟨k1, k2⟩ := hT c b e1
    have hp : σ[i]? = some (some (V.ref a)) := ini.ps
    have cr : CallR (X.suite a ((a, oe) :: pn)) (.builtin "isinstance") (fun xs H1 Q1 => xs = [.ref a, cV] ∧ H1 = H ∧ Q1 (.bl b) H) := fun pins s σ H1 xs us Q1 I1 rv hh => by
      obtain ⟨rfl, rfl, q1⟩ := hh
      obtain ⟨u1, u2, rfl, r1, r2⟩ := vals2 rv
      cases (show u1 = Value.ref a from r1)
      have e2 := hu.eq r2
      subst e2
      obtain ⟨od, J⟩ := inst_exc hz hf x (ini.st.floor.trans ini.st.sub) I1
      exact PySem.W.kia_one (PySem.W.kitx_exc k1.hd k1.hg k1.hk k1.hs k1.ha k1.hn k1.ht k1.hm) I1.kIn J k2 (fun z => nomatch z) fun tk => ⟨.bl b, H1, I1.tok tk, rfl, q1⟩
    exact (pe_callB cr hg hm boot_isi (pa_cons hv (pa_cons hc pa_nil he2) he) (by decide) (by decide) he hpl).run pins s σ H Q I ⟨.ref a, hp, rfl, rfl, h (.bl b) B H (ini.es.put (v := .bl b) (t := .sc (.bl b)) rfl)⟩
/-- classes, each a name -/
inductive ClsL (X : Cx) : List Expr → List V → List Value → Prop
  | nil : ClsL X [] [] []
  | cons {e : Expr} {es : List Expr} {v : V} {vs : List V} {u : Value} {us : List Value} (h : PE X e (tC v)) (k : ClsV v u) (r : ClsL X es vs us) (hs : starEach (e :: es) X.env = (false, eval e X.env) :: starEach es X.env := by rfl) : ClsL X (e :: es) (v :: vs) (u :: us)
theorem ClsL.pa {X : Cx} {es : List Expr} {vs : List V} {us : List Value} (h : ClsL X es vs us) : PA X es (fun _ H Q => Q vs H) ∧ Paired ClsV vs us := by
  induction h with
  | nil => exact ⟨PA.imp pa_nil fun σ H Q h => h, .nil⟩
  | cons h k r hs ih => exact ⟨PA.imp (pa_cons h ih.1 hs) fun σ H Q h => h, .cons k ih.2⟩
/-- isinstance(e, (C, ..)) -/
theorem de_isET {en : Str} {tb : List (Nat × Bool)} {ces : List Expr} {cVs : List V} {us : List Value} {kk : Nat} {p pe pt pos : Pos} (hz : L2N.Zn (.ref (G.cls c)) d oe) (hf : ∃ vs, oe.data = .fields vs) (x : ExR G B0 c fs d) (hm : X.mg "isinstance" = none)
    (hT : ∀ c b, tb.lookup c = some b → ExcI X.K (G.cls c) ∧ PySem.W.kitAny X.K (.ref (G.cls c)) us = some b) (hc : ClsL (X.suite a ((a, oe) :: pn)) ces cVs us) (hl : cVs.length ≤ 1000 := by exact Nat.le_of_ble_eq_true rfl) (hv : PE (X.suite a ((a, oe) :: pn)) (.Name en pe) (tVar i) := by exact pv _)
    (hg : Gl X "isinstance" := by rfl) (he : starEach [.Name en pe, .Tuple ces kk pt] X.env = (false, eval (.Name en pe) X.env) :: starEach [.Tuple ces kk pt] X.env := by rfl) (hpl : (backTo pos (starEach [.Tuple ces kk pt] X.env)).any (·.1) = false := by rfl) (he2 : starEach [.Tuple ces kk pt] X.env = (false, eval (.Tuple ces kk pt) X.env) :: starEach [] X.env := by rfl) :
    PE (X.suite a ((a, oe) :: pn)) (.Call (.Name "isinstance" p) [.Name en pe, .Tuple ces kk pt] [] pos) (dE (G.in B0 (some (i, .ref a))) W (eIsE tb c)) := by
  refine ⟨fun pins s σ H Q I h => ?_⟩
  obtain ⟨B, r, ini, h⟩ := h
  unfold eIsE at h
  cases e1 : tb.lookup c with
  | none =>
    rw [e1] at h
    exact h.elim
  | some b =>
    rw [e1] at h
    obtain ⟨k1, k2⟩ := hT c b e1
    obtain ⟨pa, pd⟩ := hc.pa
    have hp : σ[i]? = some (some (V.ref a)) := ini.ps
    have cr : CallR (X.suite a ((a, oe) :: pn)) (.builtin "isinstance") (fun xs H1 Q1 => ∃ tp, xs = [.ref a, .ref tp] ∧ H tp = none ∧ H1 = upd H tp (.tup cVs) ∧ Q1 (.bl b) H1) := fun pins s σ H1 xs us Q1 I1 rv hh => by
      obtain ⟨tp, rfl, nt, eH, q1⟩ := hh
      obtain ⟨u1, u2, rfl, r1, r2⟩ := vals2 rv
      cases (show u1 = Value.ref a from r1)
      cases (show u2 = Value.ref tp from r2)
      have sH : Same B0 H1 := fun y o e => by
        have e3 := (ini.st.floor.trans ini.st.sub) y o e
        rw [eH, upd_ne (ne_of_none e3 nt)]
        exact e3
      obtain ⟨od, J⟩ := inst_exc hz hf x sH I1
      obtain ⟨_, its, rv2, o, h1, h2, n, h3⟩ := (show ObjOk X.prog X.w H1 s.heap tp (.tup cVs) from I1.hok tp _ (by rw [eH, upd_same]))
      have e3 := ClsV.all pd rv2
      subst e3
      obtain ⟨oc, od2, dt, sl⟩ := o
      dsimp only at h2 h3
      subst h2 h3
      exact PySem.W.kia_tup (PySem.W.kitx_exc k1.hd k1.hg k1.hk k1.hs k1.ha k1.hn k1.ht k1.hm) I1.kIn J h1 k2 (fun z => nomatch z) fun tk => ⟨.bl b, H1, I1.tok tk, rfl, q1⟩
    refine (pe_callB cr hg hm boot_isi (pa_cons hv (pa_cons (pe_tup pa) pa_nil he2) he) (by decide) (by decide) he hpl).run pins s σ H Q I ⟨.ref a, hp, ?_⟩
    refine ⟨sz5 (Nat.le_trans hl (by decide)), fun tp nt => ⟨tp, rfl, nt, rfl, ?_⟩⟩
    exact h (.bl b) _ _ ((ini.es.news (o := .tup cVs) nt).put (v := .bl b) (t := .sc (.bl b)) rfl)
end
end
end PD
end PartPDJ

section PartPDK
set_option Elab.async false
set_option linter.all false
set_option maxRecDepth 100000
set_option maxHeartbeats 4000000
/-! ### built-in functions; the methods of a list -/
namespace PD
open PySem L2 PySem.Spec PyProof.Rows

section
variable {G : Gm} {W : WX} {X : Cx} {x : Str} {p pos : Pos} {e : Expr} {es : List Expr} {fa : XA} {id T0 : String} {q : List V → Hp → VK → Prop} {g : Env → List T → Res (Env × T)}
theorem de_callB (hc : CallR X (.builtin id) q) (o : OpA G W q g) (hm : X.mg x = none) (hv : bootBuiltins x = some (.builtin id)) (ha : PA X (e :: es) (dA G W fa)) (hg : Gl X x := by rfl) (hn : x ≠ "__name__" := by decide) (hdb : (x == ("__debug__" : Str)) = false := by decide)
    (he : starEach (e :: es) X.env = (false, eval e X.env) :: starEach es X.env := by rfl) (hpl : (backTo pos (starEach es X.env)).any (·.1) = false := by rfl) : PE X (.Call (.Name x p) (e :: es) [] pos) (dE G W (onA fa g)) :=
  PE.imp (pe_callB hc hg hm hv ha hn hdb he hpl) fun σ H Q h => onA_w o σ H Q h
theorem de_callT (hc : CallR X (.type T0) q) (o : OpA G W q g) (hm : X.mg x = none) (hv : bootBuiltins x = some (.type T0)) (ha : PA X (e :: es) (dA G W fa)) (hg : Gl X x := by rfl) (hn : x ≠ "__name__" := by decide) (hdb : (x == ("__debug__" : Str)) = false := by decide)
    (he : starEach (e :: es) X.env = (false, eval e X.env) :: starEach es X.env := by rfl) (hpl : (backTo pos (starEach es X.env)).any (·.1) = false := by rfl) : PE X (.Call (.Name x p) (e :: es) [] pos) (dE G W (onA fa g)) :=
  PE.imp (pe_callTy hc hg hm hv ha hn hdb he hpl) fun σ H Q h => onA_w o σ H Q h
theorem de_callG (hc : CallR X (.builtin id) q) (o : OpA G W q g) (hm : X.mg x = some (.builtin id)) (ha : PA X (e :: es) (dA G W fa)) (hg : Gl X x := by rfl) (hdb : (x == ("__debug__" : Str)) = false := by decide)
    (he : starEach (e :: es) X.env = (false, eval e X.env) :: starEach es X.env := by rfl) (hpl : (backTo pos (starEach es X.env)).any (·.1) = false := by rfl) : PE X (.Call (.Name x p) (e :: es) [] pos) (dE G W (onA fa g)) :=
  PE.imp (pe_callBfun hc hg hm ha hdb he hpl) fun σ H Q h => onA_w o σ H Q h
end
section
variable {G : Gm} {W : WX} {X : Cx}
theorem ES.sc1 {B H B1 H1 : Hp} {σ : L2.St} {r r1 : Env} {vs : List V} {u : V} (s : ES G B H σ r B1 H1 r1 vs [.sc u]) : vs = [u] := by
  have l := s.lv
  cases vs with
  | nil => cases l
  | cons v vs =>
    cases vs with
    | cons _ _ => cases l
    | nil => rw [s.sc (i := 0) (v := v) (u := u) rfl rfl]
theorem ES.sc2 {B H B1 H1 : Hp} {σ : L2.St} {r r1 : Env} {vs : List V} {u w : V} (s : ES G B H σ r B1 H1 r1 vs [.sc u, .sc w]) : vs = [u, w] := by
  have l := s.lv
  cases vs with
  | nil => cases l
  | cons v vs =>
    cases vs with
    | nil => cases l
    | cons v2 vs =>
      cases vs with
      | cons _ _ => cases l
      | nil => rw [s.sc (i := 0) (v := v) (u := u) rfl rfl, s.sc (i := 1) (v := v2) (u := w) rfl rfl]
theorem ES.one {B H B1 H1 : Hp} {σ : L2.St} {r r1 : Env} {vs : List V} {t : T} (s : ES G B H σ r B1 H1 r1 vs [t]) : ∃ v, vs = [v] := by
  have l := s.lv
  cases vs with
  | nil => cases l
  | cons v vs =>
    cases vs with
    | cons _ _ => cases l
    | nil => exact ⟨v, rfl⟩
/-- a function of one int, of two ints -/
def k1 (f : Int → V) (r : Env) : List T → Res (Env × T)
  | [.sc (.int i)] => .ok (r, .sc (f i))
  | _ => .stuck
def k2 (c : Int → Int → Bool) (f : Int → Int → V) (r : Env) : List T → Res (Env × T)
  | [.sc (.int i), .sc (.int j)] => if c i j then .ok (r, .sc (f i j)) else .stuck
  | _ => .stuck
theorem o_k1 {q : List V → Hp → VK → Prop} {f : Int → V} (h : ∀ i H Q, Q (f i) H → q [.int i] H Q) : OpA G W q (k1 f) := fun σ Q B H r B1 H1 r1 vs ts s d => by
  unfold k1 at d
  split at d
  · rename_i i
    rw [s.sc1]
    exact h i H1 Q (d (f i) B1 H1 (s.put (v := f i) (t := .sc (f i)) rfl))
  · exact d.elim
theorem o_k2 {q : List V → Hp → VK → Prop} {c : Int → Int → Bool} {f : Int → Int → V} (h : ∀ i j H Q, c i j = true → Q (f i j) H → q [.int i, .int j] H Q) : OpA G W q (k2 c f) := fun σ Q B H r B1 H1 r1 vs ts s d => by
  unfold k2 at d
  split at d
  · rename_i i j
    split at d
    · rename_i hc
      rw [s.sc2]
      exact h i j H1 Q hc (d (f i j) B1 H1 (s.put (v := f i j) (t := .sc (f i j)) rfl))
    · exact d.elim
  · exact d.elim
def iabs (i : Int) : Int := if i < 0 then -i else i
abbrev kAbs := k1 fun i => .int (iabs i)
theorem o_abs : OpA G W (fun xs H Q => ∃ i, xs = [.int i] ∧ Q (.int (if i < 0 then -i else i)) H) kAbs := o_k1 fun i H Q h => ⟨i, rfl, h⟩
def imax (i j : Int) : Int := if j > i then j else i
def imin (i j : Int) : Int := if j < i then j else i
abbrev kMax2 := k2 (fun _ _ => true) fun i j => .int (imax i j)
abbrev kMin2 := k2 (fun _ _ => true) fun i j => .int (imin i j)
theorem o_max2 : OpA G W (fun xs H Q => ∃ i j, xs = [.int i, .int j] ∧ Q (.int (if j > i then j else i)) H) kMax2 := o_k2 fun i j H Q _ h => ⟨i, j, rfl, h⟩
theorem o_min2 : OpA G W (fun xs H Q => ∃ i j, xs = [.int i, .int j] ∧ Q (.int (if j < i then j else i)) H) kMin2 := o_k2 fun i j H Q _ h => ⟨i, j, rfl, h⟩
abbrev kGcd := k2 (fun _ _ => true) fun i j => .int ((Nat.gcd i.natAbs j.natAbs : Nat) : Int)
theorem o_gcd : OpA G W rGcd kGcd := o_k2 fun i j H Q _ h => ⟨i, j, rfl, h⟩
def kInt (r : Env) : List T → Res (Env × T)
  | [.sc (.int i)] => .ok (r, .sc (.int i))
  | [.sc (.bl b)] => .ok (r, .sc (.int (if b then 1 else 0)))
  | _ => .stuck
theorem o_int : OpA G W (fun xs H Q => (∃ i, xs = [.int i] ∧ Q (.int i) H) ∨ ∃ k, xs = [.bl k] ∧ Q (.int (if k then 1 else 0)) H) kInt := fun σ Q B H r B1 H1 r1 vs ts s d => by
  unfold kInt at d
  split at d
  · rename_i i
    rw [s.sc1]
    exact .inl ⟨i, rfl, d (.int i) B1 H1 (s.put (v := .int i) (t := .sc (.int i)) rfl)⟩
  · rename_i b
    rw [s.sc1]
    exact .inr ⟨b, rfl, d _ B1 H1 (s.put (v := .int (if b then 1 else 0)) (t := .sc (.int (if b then 1 else 0))) rfl)⟩
  · exact d.elim
def kLen (r : Env) : List T → Res (Env × T)
  | [t] => (match pk r t with
    | .nd _ .lst xs => .ok (r, .sc (.int xs.length))
    | .nd _ .fro xs => .ok (r, .sc (.int xs.length))
    | .nd _ .tup xs => .ok (r, .sc (.int xs.length))
    | _ => .stuck)
  | _ => .stuck
abbrev rLenQ (K : PySem.W.Frag) : List V → Hp → VK → Prop := fun xs H Q => ∃ p ys, xs = [.ref p] ∧ (SqL K H p ys ∨ SqT K H p ys) ∧ Q (.int ys.length) H
theorem o_len (hK : G.K = X.K) : OpA G W (rLenQ X.K) kLen := fun σ Q B H r B1 H1 r1 vs ts s d => by
  unfold kLen at d
  split at d
  · rename_i t
    obtain ⟨v, rfl⟩ := s.one
    split at d
    · rename_i f xs e
      obtain ⟨a, ws, rfl, hs, hx⟩ := s.rd (i := 0) rfl rfl e
      exact ⟨a, ws, rfl, .inl (.inl (.inl hs)), by rw [hx.length]; exact d _ B1 H1 (s.put (v := .int xs.length) (t := .sc (.int xs.length)) rfl)⟩
    · rename_i f xs e
      obtain ⟨a, ws, rfl, hs, hx⟩ := s.rd (i := 0) rfl rfl e
      exact ⟨a, ws, rfl, .inl (by rw [← hK]; exact hs), by rw [hx.length]; exact d _ B1 H1 (s.put (v := .int xs.length) (t := .sc (.int xs.length)) rfl)⟩
    · rename_i f xs e
      obtain ⟨a, ws, rfl, hs, hx⟩ := s.rd (i := 0) rfl rfl e
      exact ⟨a, ws, rfl, .inr (by rw [← hK]; exact hs), by rw [hx.length]; exact d _ B1 H1 (s.put (v := .int xs.length) (t := .sc (.int xs.length)) rfl)⟩
    · exact d.elim
  · exact d.elim
/-- list(xs), of a list or a tuple -/
def kList (r : Env) : List T → Res (Env × T)
  | [t] => (match pk r t with
    | .nd _ .lst xs => .ok (r, .nd .ow .lst xs)
    | .nd _ .fro xs => .ok (r, .nd .ow .lst xs)
    | .nd _ .tup xs => .ok (r, .nd .ow .lst xs)
    | _ => .stuck)
  | _ => .stuck
theorem o_list (hK : G.K = X.K) : OpA G W (fun xs H Q => ∃ p ys, xs = [.ref p] ∧ (SqL X.K H p ys ∨ SqT X.K H p ys) ∧ ∀ l, H l = none → Q (.ref l) (upd H l (.lst ys))) kList := fun σ Q B H r B1 H1 r1 vs ts s d => by
  unfold kList at d
  split at d
  · rename_i t
    obtain ⟨v, rfl⟩ := s.one
    split at d
    · rename_i f xs e
      obtain ⟨a, ws, rfl, hs, hx⟩ := s.rd (i := 0) rfl rfl e
      exact ⟨a, ws, rfl, .inl (.inl (.inl hs)), fun l nl => d _ _ _ (s.newo nl hx)⟩
    · rename_i f xs e
      obtain ⟨a, ws, rfl, hs, hx⟩ := s.rd (i := 0) rfl rfl e
      exact ⟨a, ws, rfl, .inl (by rw [← hK]; exact hs), fun l nl => d _ _ _ (s.newo nl hx)⟩
    · rename_i f xs e
      obtain ⟨a, ws, rfl, hs, hx⟩ := s.rd (i := 0) rfl rfl e
      exact ⟨a, ws, rfl, .inr (by rw [← hK]; exact hs), fun l nl => d _ _ _ (s.newo nl hx)⟩
    · exact d.elim
  · exact d.elim
theorem boot_abs : bootBuiltins "abs" = some (.builtin "abs") := by decide +kernel
theorem boot_min : bootBuiltins "min" = some (.builtin "min") := by decide +kernel
theorem boot_max : bootBuiltins "max" = some (.builtin "max") := by decide +kernel
theorem boot_len : bootBuiltins "len" = some (.builtin "len") := by decide +kernel
theorem boot_int : bootBuiltins "int" = some (.type "int") := by decide +kernel
theorem boot_bool : bootBuiltins "bool" = some (.type "bool") := by decide +kernel
theorem boot_list : bootBuiltins "list" = some (.type "list") := by decide +kernel
theorem boot_tuple : bootBuiltins "tuple" = some (.type "tuple") := by decide +kernel
theorem boot_str : bootBuiltins "str" = some (.type "str") := by decide +kernel
theorem boot_divmod : bootBuiltins "divmod" = some (.builtin "divmod") := by decide +kernel

/-! ### a list of a slot is changed -/
def eMut (i : Nat) (fa : XA) (g : List T → List T → Option (List T × T)) : XE := fun r => match r[i]? with
  | some (some (.nd _ .lst _)) => (match fa r with
    | .ok (r1, ts) => (match r1[i]? with
      | some (some (.nd f .lst xs)) => if wrf f && ts.all isSh then (match g xs ts with
        | some (ys, t) => .ok (r1.set i (some (.nd f .lst ys)), t)
        | none => .stuck) else .stuck
      | _ => .stuck)
    | .err r c fs => .err r c fs
    | .stuck => .stuck)
  | _ => .stuck
def MutR (G : Gm) (q : V → List V → Hp → VK → Prop) (g : List T → List T → Option (List T × T)) : Prop := ∀ (B H : Hp) (l : Addr) (ws vs : List V) (xs ts ys : List T) (t : T) (Q : VK), Same B H → H l = some (.lst ws) → SRepL G B ws xs → SRepL G B vs ts → g xs ts = some (ys, t) →
  (∀ ws' v, SRepL G B ws' ys → SRep G B v t → Q v (upd H l (.lst ws'))) → q (.ref l) vs H Q
theorem mut_w {i : Nat} {fa : XA} {g : List T → List T → Option (List T × T)} {q : V → List V → Hp → VK → Prop} (o : MutR G q g) (σ : L2.St) (H : Hp) (Q : VK) (h : dE G W (eMut i fa g) σ H Q) :
    tVar i σ H fun x H1 => tyV X.K "list" x H1 ∧ dA G W fa σ H1 fun vs H2 => q x vs H2 Q := by
  obtain ⟨B, r, ini, h⟩ := h
  unfold eMut at h
  split at h
  · rename_i f0 xs0 e0
    have lt : i < σ.length := by
      rw [ini.len]
      exact get_lt e0
    have hz : (zl σ r)[i]? = some (σ[i], some (.nd f0 .lst xs0)) := zl_of (by simp [lt]) e0
    have rp := ini.st.rep _ (List.mem_of_getElem? hz)
    cases ev : σ[i] with
    | none =>
      rw [ev] at rp
      exact rp.elim
    | some v =>
      rw [ev] at rp hz
      have rp : Rep G B H (zl σ r) v (.nd f0 .lst xs0) := rp
      obtain ⟨a, ws, rfl, hs, hx⟩ := rp.rd ini.st.sub
      refine ⟨.ref a, by rw [← ev]; simp [lt], .inl ⟨rfl, ws, .inl (.inl hs)⟩, B, r, ini, ?_⟩
      cases e1 : fa r with
      | stuck =>
        rw [e1] at h
        exact h
      | err r1 c fs =>
        rw [e1] at h
        exact h
      | ok p =>
        obtain ⟨r1, ts⟩ := p
        simp only [e1] at h
        intro vs B1 H1 s
        have h : dEp G W σ Q B H r (match r1[i]? with
          | some (some (.nd f .lst xs)) => if wrf f && ts.all isSh then (match g xs ts with
            | some (ys, t) => .ok (r1.set i (some (.nd f .lst ys)), t)
            | none => .stuck) else .stuck
          | _ => .stuck) := h
        split at h
        · rename_i f xs e2
          split at h
          · rename_i hc
            obtain ⟨c1, c2⟩ := Bool.and_eq_true_iff.mp hc
            split at h
            · rename_i ys t eg
              obtain ⟨f', xs', e3, _⟩ := s.es.ke i (.ref a) f0 .lst xs0 hz
              have e4 := (zl_get e3).2
              rw [e2] at e4
              cases e4
              have q0 : owf f = true := by cases f <;> first | rfl | cases c1
              have rp1 := s.init.st.rep _ (List.mem_of_getElem? e3)
              have rp1 : Rep G B1 H1 (zl σ r1) (.ref a) (.nd f .lst xs) := rp1
              unfold Rep at rp1
              simp only [if_pos q0] at rp1
              obtain ⟨a', ws', ea, eb, ow, hx'⟩ := rp1
              cases ea
              refine o B1 H1 a ws' vs xs ts ys t Q s.init.st.sub ow hx' (s.shs c2) eg fun ws2 v h1 h2 => ?_
              exact h v _ _ ((s.write e3 c1 (o := .lst ws2) (ws := ws2) upd_same h1).put h2)
            · exact h.elim
          · exact h.elim
        · exact h.elim
  · exact h.elim
variable {o : Expr} {e : Expr} {es : List Expr} {name : Str} {apos cpos pos : Pos} {id : String} {fa : XA} {i : Nat} {q : V → List V → Hp → VK → Prop} {g : List T → List T → Option (List T × T)} {x : Str}
theorem de_mut (slot : Slot "list" name id) (hty : typeOf (.builtin id) = pure (.type "method_descriptor")) (hm : MtR X id q) (o : MutR G q g) (ha : PA X (e :: es) (dA G W fa)) (hv : PE X (.Name x pos) (tVar i) := by exact pv _)
    (hbase : attributeBase (.Name x pos) name X.env (eval (.Name x pos) X.env) = eval (.Name x pos) X.env := by rfl)
    (hfew : ((backTo cpos (starEach (e :: es) X.env)).all (fun x => !x.1) && (backToKw cpos (keywordEach [] X.env)).all (fun x => x.1.isSome)
      && decide ((e :: es).length + ([] : List Keyword).length + (if ([] : List Keyword).isEmpty then 0 else 1) < 30)) = true := by rfl)
    (hline : (apos.endLine == cpos.line) = true := by rfl) (hs : starEach (e :: es) X.env = (false, eval e X.env) :: starEach es X.env := by rfl) (hplain : (backTo cpos (starEach es X.env)).any (·.1) = false := by rfl) :
    PE X (.Call (.Attribute (.Name x pos) name apos) (e :: es) [] cpos) (dE G W (eMut i fa g)) :=
  PE.imp (pe_bm PySem.F.plainAttrs_list slot hty hm hv ha hbase hfew hline hs hplain) fun σ H Q h => mut_w o σ H Q h
theorem de_mut0 (slot : Slot "list" name id) (hty : typeOf (.builtin id) = pure (.type "method_descriptor")) (hm : MtR X id q) (o : MutR G q g) (hv : PE X (.Name x pos) (tVar i) := by exact pv _)
    (hbase : attributeBase (.Name x pos) name X.env (eval (.Name x pos) X.env) = eval (.Name x pos) X.env := by rfl) (hline : (apos.endLine == cpos.line) = true := by rfl) :
    PE X (.Call (.Attribute (.Name x pos) name apos) [] [] cpos) (dE G W (eMut i aN g)) :=
  PE.imp (pe_bm0 PySem.F.plainAttrs_list slot hty hm hv hbase hline) fun σ H Q h => by
  obtain ⟨v, e, ty, B, r, ini, z⟩ := mut_w (X := X) o σ H Q h
  exact ⟨v, e, ty, z [] B H ini.es⟩
def mAppend : List T → List T → Option (List T × T)
  | xs, [t] => if xs.length ≤ 100000 then some (xs ++ [t], .sc .non) else none
  | _, _ => none
theorem sz6 {n : Nat} (h : n ≤ 100000) : n < sizeLine := by
  rw [sizeLine_eq]
  omega
theorem m_append : MutR G rAppend mAppend := fun B H l ws vs xs ts ys t Q sb hl hx hv eg k => by
  unfold mAppend at eg
  split at eg
  · rename_i t0
    split at eg
    · rename_i hc
      cases eg
      cases vs with
      | nil => exact hv.elim
      | cons v vs =>
        cases vs with
        | cons _ _ => exact hv.2.elim
        | nil => exact ⟨l, ws, v, rfl, rfl, hl, by rw [hx.length]; exact sz6 hc, k _ _ (hx.append ⟨hv.1, trivial⟩) rfl⟩
    · cases eg
  · cases eg
def mPop : List T → List T → Option (List T × T)
  | xs, [] => (match xs[xs.length - 1]? with
    | some t => some (xs.dropLast, t)
    | none => none)
  | _, _ => none
theorem SRepL.dropLast {B : Hp} : ∀ {vs : List V} {ts : List T}, SRepL G B vs ts → SRepL G B vs.dropLast ts.dropLast
  | [], [], _ => trivial
  | [_], [_], _ => trivial
  | _ :: _ :: _, _ :: _ :: _, h => ⟨h.1, SRepL.dropLast h.2⟩
  | [], _ :: _, h => h.elim
  | _ :: _, [], h => h.elim
  | [_], _ :: _ :: _, h => h.2.elim
  | _ :: _ :: _, [_], h => h.2.elim
theorem SRepL.eraseIdx {B : Hp} : ∀ {vs : List V} {ts : List T} (i : Nat), SRepL G B vs ts → SRepL G B (vs.eraseIdx i) (ts.eraseIdx i)
  | [], [], _, _ => trivial
  | _ :: _, _ :: _, 0, h => h.2
  | _ :: _, _ :: _, i + 1, h => ⟨h.1, SRepL.eraseIdx i h.2⟩
  | [], _ :: _, _, h => h.elim
  | _ :: _, [], _, h => h.elim
theorem m_pop : MutR G rPop mPop := fun B H l ws vs xs ts ys t Q sb hl hx hv eg k => by
  unfold mPop at eg
  split at eg
  · split at eg
    · rename_i t0 e0
      cases eg
      cases vs with
      | cons _ _ => exact hv.elim
      | nil =>
        obtain ⟨v, e1, e2⟩ := hx.get e0
        exact ⟨l, ws, v, rfl, rfl, hl, by rw [hx.length]; exact e1, k _ _ hx.dropLast e2⟩
    · cases eg
  · cases eg
def mPopAt : List T → List T → Option (List T × T)
  | xs, [.sc (.int i)] => if xs.length ≤ 100000 then (match ixN xs.length i with
    | some j => (match xs[j]? with
      | some t => some (xs.eraseIdx j, t)
      | none => none)
    | none => none) else none
  | _, _ => none
theorem m_popAt : MutR G rPopAt mPopAt := fun B H l ws vs xs ts ys t Q sb hl hx hv eg k => by
  unfold mPopAt at eg
  split at eg
  · rename_i i
    split at eg
    · rename_i hc
      split at eg
      · rename_i j ej
        split at eg
        · rename_i t0 e0
          cases eg
          cases vs with
          | nil => exact hv.elim
          | cons v vs =>
            cases vs with
            | cons _ _ => exact hv.2.elim
            | nil =>
              have ev : v = .int i := hv.1
              subst ev
              obtain ⟨u, e1, e2⟩ := hx.get e0
              obtain ⟨i1, i2, i3, i4⟩ := ixN_seq ej
              exact ⟨l, ws, i, j, u, rfl, rfl, hl, by omega, by omega, by rw [hx.length]; exact i1, e1, k _ _ (hx.eraseIdx j) e2⟩
        · cases eg
      · cases eg
    · cases eg
  · cases eg
def mReverse : List T → List T → Option (List T × T)
  | xs, [] => some (xs.reverse, .sc .non)
  | _, _ => none
theorem m_reverse : MutR G rReverse mReverse := fun B H l ws vs xs ts ys t Q sb hl hx hv eg k => by
  unfold mReverse at eg
  split at eg
  · cases eg
    cases vs with
    | cons _ _ => exact hv.elim
    | nil => exact ⟨l, ws, rfl, rfl, hl, k _ _ hx.reverse rfl⟩
  · cases eg
def mClear : List T → List T → Option (List T × T)
  | _, [] => some ([], .sc .non)
  | _, _ => none
theorem m_clear : MutR G rClear mClear := fun B H l ws vs xs ts ys t Q sb hl hx hv eg k => by
  unfold mClear at eg
  split at eg
  · cases eg
    cases vs with
    | cons _ _ => exact hv.elim
    | nil => exact ⟨l, ws, rfl, rfl, hl, k [] _ trivial rfl⟩
  · cases eg
def mExtend : List T → List T → Option (List T × T)
  | xs, [.nd .sh .lst zs] => if xs.length + zs.length ≤ 100000 then some (xs ++ zs, .sc .non) else none
  | _, _ => none
theorem m_extend : MutR G rExtend mExtend := fun B H l ws vs xs ts ys t Q sb hl hx hv eg k => by
  unfold mExtend at eg
  split at eg
  · rename_i zs
    split at eg
    · rename_i hc
      cases eg
      cases vs with
      | nil => exact hv.elim
      | cons v vs =>
        cases vs with
        | cons _ _ => exact hv.2.elim
        | nil =>
          obtain ⟨_, b, us, rfl, hb, hz⟩ := hv.1
          exact ⟨l, b, ws, us, rfl, rfl, hl, sb _ _ hb, by rw [hx.length, hz.length]; exact sz5 hc, k _ _ (hx.append hz) rfl⟩
    · cases eg
  · cases eg

/-! ### xs[i] = v -/
def gSet (i : Nat) (fi : XE) : XG := fun t r => match r[i]? with
  | some (some (.nd _ .lst _)) => (match fi r with
    | .ok (r1, .sc (.int k)) => (match r1[i]? with
      | some (some (.nd f .lst xs)) => if wrf f then (match ixN xs.length k with
        | some j => .ok (.nx (r1.set i (some (.nd f .lst (xs.set j t)))))
        | none => .stuck) else .stuck
      | _ => .stuck)
    | _ => .stuck)
  | _ => .stuck
theorem dg_set {ie : Expr} {fi : XE} (hi : PE X ie (dE G W fi)) (hv : PE X (.Name x pos) (tVar i) := by exact pv _)
    (ha : ∀ v, assign (.Subscript (.Name x pos) ie cpos) X.env v = (do
      let ov ← holding [v] (eval (.Name x pos) X.env)
      let iv ← holding [v, ov] (eval ie X.env)
      standAt cpos
      holding [v, ov, iv] (setItem ov iv v)
      release [v, ov, iv] []) := by intro _; rfl) : PG X (.Subscript (.Name x pos) ie cpos) (dG G (gSet i fi)) :=
  PG.imp (pg_sub hv hi set_list ha) fun v σ H Q ⟨B, r, t, r', ini, hvt, e, k⟩ => by
  unfold gSet at e
  split at e
  · rename_i f0 xs0 e0
    have lt : i < σ.length := by
      rw [ini.len]
      exact get_lt e0
    have hz : (zl σ r)[i]? = some (σ[i], some (.nd f0 .lst xs0)) := zl_of (by simp [lt]) e0
    have rp := ini.st.rep _ (List.mem_of_getElem? hz)
    cases ev : σ[i] with
    | none =>
      rw [ev] at rp
      exact rp.elim
    | some w =>
      rw [ev] at rp hz
      have rp : Rep G B H (zl σ r) w (.nd f0 .lst xs0) := rp
      obtain ⟨a, ws, rfl, hs, hx⟩ := rp.rd ini.st.sub
      refine ⟨.ref a, by rw [← ev]; simp [lt], B, r, ini, ?_⟩
      cases e1 : fi r with
      | stuck =>
        rw [e1] at e
        cases e
      | err r1 c fs =>
        rw [e1] at e
        cases e
      | ok p =>
        obtain ⟨r1, ti⟩ := p
        rw [e1] at e
        intro iv B1 H1 s
        split at e
        · rename_i r2 k2 e5
          cases e5
          split at e
          · rename_i f xs e2
            split at e
            · rename_i c1
              split at e
              · rename_i j ej
                cases e
                have ek := s.sc (i := 0) (v := iv) rfl rfl
                subst ek
                obtain ⟨f', xs', e3, _⟩ := s.es.ke i (.ref a) f0 .lst xs0 hz
                have e4 := (zl_get e3).2
                rw [e2] at e4
                cases e4
                have q0 : owf f = true := by cases f <;> first | rfl | cases c1
                have rp1 := s.init.st.rep _ (List.mem_of_getElem? e3)
                have rp1 : Rep G B1 H1 (zl σ r1) (.ref a) (.nd f .lst xs) := rp1
                unfold Rep at rp1
                simp only [if_pos q0] at rp1
                obtain ⟨a', ws', ea, eb, ow, hx'⟩ := rp1
                cases ea
                refine ⟨a, ws', k2, j, rfl, rfl, ow, by rw [hx'.length]; exact ej, ?_⟩
                exact k σ B1 _ (s.write e3 c1 (o := .lst (ws'.set j v)) (ws := ws'.set j v) upd_same (SRepL.set (SRep.mono s.es.stp.ex _ _ hvt) j hx')).ss0
              · cases e
            · cases e
          · cases e
        · cases e
  · cases e
end
end PD
end PartPDK

section PartPDL
set_option Elab.async false
set_option linter.all false
set_option maxRecDepth 100000
set_option maxHeartbeats 4000000
/-! ### the head: facts by names -/
namespace PD
open PySem L2 PySem.Spec PyProof.Rows

abbrev FnN : Type := Option (Str × Str × Arguments × FuncBody × Scope × Addr × List Str × Addr)
def fnN (K : PySem.W.Frag) (p : Str × Option Str) : FnN := match K.lookup (He.fAd K p) with
  | some ⟨_, _, .func fd, _⟩ => some (fd.name, fd.qualname, fd.params, fd.body, fd.scope, fd.globals, fd.closure.map (·.1), fd.builtins)
  | _ => none
/-- a def, the names that it closes over -/
structure DD where
  d : He.DefD
  cl : List Str := []
def DD.val (d : DD) : FnN := some (d.d.name, d.d.qual, d.d.params, .stmts d.d.body, d.d.scope, mainGlobals, d.cl, builtinsNs)
abbrev OB : Type := Bool × List FnN
abbrev Fx : Type := PySem.W.Frag → Bool
def obsP (fx : List Fx) (fn : List DD) (K : PySem.W.Frag) : OB := (fx.all fun f => f K, fn.map fun d => fnN K d.d.at_)
def valP (fn : List DD) : OB := (true, fn.map DD.val)
def SaysP (fx : List Fx) (fn : List DD) (K : PySem.W.Frag) : Prop := obsP fx fn K = valP fn
def asP (g : Addr → Option Obj) : Nat → List Addr
  | 0 => [mainGlobals, PySem.cStatics]
  | n + 1 => He.growD g (asP g n)
def obsPG (n : Nat) (fx : List Fx) (fn : List DD) (g : Addr → Option Obj) : OB := obsP fx fn (He.frG g (asP g n))
def hookP (n : Nat) (fx : List Fx) (fn : List DD) : PySem.W.Hook where
  α := OB
  obs := fun s => obsPG n fx fn s.heap.get?
  val := fun _ => valP fn
  says := fun _ h => ∃ K : PySem.W.Frag, K.In h ∧ SaysP fx fn K
  of := fun _ _ e => ⟨_, He.frG_in, e⟩
  keeps := fun _ _ _ ⟨K, hK, c⟩ k => ⟨K, PySem.W.Frag.In.keeps hK k, c⟩
theorem obsPG_eq {n : Nat} {fx : List Fx} {fn : List DD} {g : Addr → Option Obj} {s : Shared} (h : ∀ a, g a = s.heap.get? a) : obsPG n fx fn g = (hookP n fx fn).obs s := by
  have e : g = s.heap.get? := funext h
  rw [e] <;> rfl
/-- what is known of the written part and of the module's names -/
structure FX (fx : List Fx) (fn : List DD) (K : PySem.W.Frag) (mg : Str → Option Value) : Prop where
  c : SaysP fx fn K
  m1 : ∀ x v, PySem.W.nsIn K mainGlobals x = some (some v) → mg x = some v
  m0 : ∀ x, PySem.W.nsIn K mainGlobals x = some none → mg x = none
section
variable {fx : List Fx} {fn : List DD} {K : PySem.W.Frag} {mg : Str → Option Value}
theorem FX.of {h : Heap} (X : K.In h) (G : h.Ns mainGlobals mg) (c : SaysP fx fn K) : FX fx fn K mg := ⟨c, fun _ _ e => PySem.W.mg_of X G e, fun _ e => PySem.W.mg_none_of X G e⟩
theorem FX.fact (F : FX fx fn K mg) (i : Nat) {f : Fx} (h : fx[i]? = some f := by rfl) : f K = true := by
  have c1 : (fx.all fun f => f K) = true := congrArg (fun z : OB => z.1) F.c
  exact List.all_eq_true.mp c1 f (List.mem_of_getElem? h)
theorem FX.name (F : FX fx fn K mg) (i : Nat) {d : DD} (h : fn[i]? = some d := by rfl) : fnN K d.d.at_ = d.val := by
  have e : fn.map (fun d => fnN K d.d.at_) = fn.map DD.val := congrArg (fun z : OB => z.2) F.c
  have e2 : (fn.map fun d => fnN K d.d.at_)[i]? = (fn.map DD.val)[i]? := by rw [e]
  rw [List.getElem?_map, List.getElem?_map, h] at e2
  exact Option.some.inj e2
theorem fnN_W {d : He.DefD} (e : fnN K d.at_ = (⟨d, []⟩ : DD).val) : He.fnW K d.at_ = d.val := by
  unfold fnN at e
  unfold He.fnW
  split at e
  · rename_i oc od fd osl q
    obtain ⟨n1, n2, n3, n4, n5, n6, n7, n8, n9, n10, n11, n12, n13, n14, n15⟩ := fd
    unfold DD.val at e
    simp only [Option.some.injEq, Prod.mk.injEq] at e
    obtain ⟨h1, h2, h3, h4, h5, h6, h7, h8⟩ := e
    have h7 : n7 = [] := List.map_eq_nil_iff.mp h7
    subst h1 h2 h3 h4 h5 h6 h7 h8
    unfold He.DefD.val
    rw [q]
  · cases e
theorem FX.fd (F : FX fx fn K mg) (i j : Nat) {d : He.DefD} (h : fn[i]? = some ⟨d, []⟩ := by rfl) (hj : fx[j]? = some (fun K => d.ok K) := by rfl) : ∃ fd, FunD K d.name d.qual d.params d.body d.scope (d.dvs K) (d.kws K) (He.fAd K d.at_) fd :=
  He.DefD.funD (fnN_W (F.name i h)) (F.fact j hj)

/-! ### Bool facts -/
open PySem.W in
def oexB (K : Frag) (C : Addr) : Bool := (match K.lookup C with
  | some ⟨.type "type", _, .cls cd, sl⟩ => (match cd.mro, sl.toList with
    | .ref C' :: bm, [_, _, _, _, some (.builtin n), _] => C' == C && (n == "ValueError.__new__" && (!cd.hasDel && (cd.hasDict && PySem.HandSPX.refsVE bm)))
    | _, _ => false)
  | _ => false) && (decide (findIn K (.ref C) "__setattr__" = some (some (.builtin "object.__setattr__"))) && (decide (subIn K (.ref C) (.type "BaseException") = some true) && (decide (typeIn K (.ref C) = some (.type "type")) && keepIn K (.ref C))))
theorem oexB_ok {C : Addr} (h : oexB K C = true) : OexC K C := by
  unfold oexB at h
  obtain ⟨h1, h⟩ := Bool.and_eq_true_iff.mp h
  obtain ⟨h2, h⟩ := Bool.and_eq_true_iff.mp h
  obtain ⟨h3, h⟩ := Bool.and_eq_true_iff.mp h
  obtain ⟨h4, h5⟩ := Bool.and_eq_true_iff.mp h
  refine ⟨?_, of_decide_eq_true h2, of_decide_eq_true h3, of_decide_eq_true h4, h5⟩
  split at h1
  · rename_i dd cd sl ho
    split at h1
    · rename_i C' bm k0 k1 k2 k3 n k5 hm hs
      simp only [Bool.and_eq_true, beq_iff_eq, Bool.not_eq_true'] at h1
      obtain ⟨rfl, rfl, hdel, hdct, hre⟩ := h1
      obtain ⟨nm, bs, mro, ns, qn, hd, sn, sub, ab, col, del⟩ := cd
      dsimp only at hm hdel hdct
      subst hm hdel hdct
      have hsl : sl = #[k0, k1, k2, k3, some (.builtin "ValueError.__new__"), k5] := by
        obtain ⟨l⟩ := sl
        simp only at hs
        rw [hs]
      subst hsl
      exact ⟨nm, qn, ns, bs, bm, sn, sub, ab, col, dd, k0, k1, k2, k3, k5, ho, hre⟩
    · cases h1
  · cases h1
end
end PD
end PartPDL

section PartPDM
set_option Elab.async false
set_option linter.all false
set_option maxRecDepth 100000
set_option maxHeartbeats 4000000
/-! ### facts for rules; the end of a law -/
namespace PD
open PySem L2 PySem.Spec PyProof.Rows
open He (ga ma fAd Fa)

/-! facts as Fx -/
abbrev xGlo (x : Str) : Fx := fun K => Fa.ok K (.glo x)
abbrev xFree (x : Str) : Fx := fun K => Fa.ok K (.free x)
abbrev xInt (x : Str) (i : Int) : Fx := fun K => Fa.ok K (.int x i)
abbrev xCls (x : Str) : Fx := fun K => Fa.ok K (.cls x)
abbrev xNoat (x f : Str) : Fx := fun K => Fa.ok K (.noat x f)
abbrev xMeth (x m : Str) : Fx := fun K => Fa.ok K (.meth x m)
abbrev xMkr (x : Str) : Fx := fun K => Fa.ok K (.mkr x)
abbrev xExc (x : Str) : Fx := fun K => Fa.ok K (.exc x)
abbrev xExm (x y : Str) (b : Bool) : Fx := fun K => Fa.ok K (.exm x y b)
abbrev xBlt (x : Str) (u : String) : Fx := fun K => He.eqO (PySem.W.nsIn K mainGlobals x) (some (some (.builtin u)))
abbrev xDef (d : He.DefD) : Fx := fun K => d.ok K
/-- isinstance of data: the tag's own class -/
def isB (K : PySem.W.Frag) (x : Str) : Bool := Fa.ok K (.cls x) && (decide (PySem.W.findIn K (.ref (ga K x)) "__class__" = some (some (.builtin "object.__class__"))) && (decide (PySem.W.specialIn K (.builtin "object.__class__") "__get__" = some (some (.builtin "getset_descriptor.__get__"))) &&
  (decide (PySem.W.takesIn K (.builtin "object.__class__") = some true) && decide (PySem.W.mroIn K (ga K x) (.type "object") = some true))))
abbrev xIs (x : Str) : Fx := fun K => isB K x
/-- a value by name: an own class, or a built-in type -/
inductive Nm where
  | own (x : Str)
  | ty (n : String)
def Nm.u (K : PySem.W.Frag) : Nm → Value
  | .own x => .ref (ga K x)
  | .ty n => .type n
def Nm.v (K : PySem.W.Frag) : Nm → V
  | .own x => .ref (ga K x)
  | .ty n => .ty n
theorem Nm.cv (K : PySem.W.Frag) (n : Nm) : ClsV (n.v K) (n.u K) := by
  cases n with
  | own x => exact .own _
  | ty n => exact .ty _
abbrev xKit (t c : Nm) (b : Bool) : Fx := fun K => decide (PySem.W.kitOne K (t.u K) (c.u K) = some b)
abbrev xKitA (t : Nm) (cs : List Nm) (b : Bool) : Fx := fun K => decide (PySem.W.kitAny K (t.u K) (cs.map (Nm.u K)) = some b)
abbrev xExmB (x : Str) (c : Nm) (b : Bool) : Fx := fun K => decide (PySem.W.exmOne K (.ref (ga K x)) (c.u K) = some b)
def exB (K : PySem.W.Frag) (x : Str) : Bool := decide (PySem.W.findIn K (.ref (ga K x)) "__getattribute__" = some (some (.builtin "BaseException.__getattribute__"))) && (decide (PySem.W.findIn K (.ref (ga K x)) "__getattr__" = some none) && (decide (PySem.W.subIn K (.ref (ga K x)) (.type "BaseException") = some true) &&
  ((PySem.W.clsIn K (ga K x)).isSome && (decide (PySem.W.findIn K (.ref (ga K x)) "__class__" = some (some (.builtin "object.__class__"))) && (decide (PySem.W.specialIn K (.builtin "object.__class__") "__get__" = some (some (.builtin "getset_descriptor.__get__"))) &&
  (decide (PySem.W.takesIn K (.builtin "object.__class__") = some true) && decide (PySem.W.mroIn K (ga K x) (.type "object") = some true)))))))
abbrev xExI (x : Str) : Fx := fun K => exB K x
abbrev xXf (x f : Str) : Fx := fun K => xfB K (ga K x) && decide (PySem.W.findIn K (.ref (ga K x)) f = some none)
/-- an error's __init__ -/
def initB (file x f : Str) (K : PySem.W.Frag) : Bool := (match K.lookup (fAd K (x, some ("__init__" : Str))) with
  | some ⟨_, _, .func fd, _⟩ => (match fd.code, fd.closure, fd.defaults with
    | .ref cda, [(_, cc)], .none => PySem.W.codeIn K (.ref cda) fd.qualname && ((match K.lookup cda with
      | some ⟨_, _, .fields vs, _⟩ => (match vs[2]? with
        | some (Value.str fl _) => file == fl
        | _ => false)
      | _ => false) && (match K.lookup cc with
      | some ⟨_, _, .cell (some (.ref D)), _⟩ => decide (D = ga K x)
      | _ => false))
    | _, _, _ => false)
  | _ => false) && ((PySem.W.clsIn K (ga K x)).isSome && (decide (PySem.W.mroIn K (ga K x) (.ref (ga K x)) = some true) && (oexB K (ga K x) && (decide (PySem.W.findIn K (.ref (ga K x)) f = some none) && (decide (PySem.W.nsIn K PySem.cStatics "thirdparty.any" = some none) &&
  (decide (PySem.W.ks_superIn K (ga K x) (ga K x) "__init__" = some (some (.builtin "ValueError.__init__"))) && (decide (PySem.W.subIn K (.ref (ga K x)) (.type "ValueError") = some true) &&
  (decide (PySem.W.findIn K (.ref (ga K x)) "__init__" = some (some (.ref (fAd K (x, some ("__init__" : Str)))))) && decide (PySem.W.typeIn K (.ref (fAd K (x, some ("__init__" : Str)))) = some (.type "function"))))))))))
abbrev xIni (file x f : Str) : Fx := fun K => initB file x f K
section
variable {fx : List Fx} {fn : List DD} {K : PySem.W.Frag} {mg : Str → Option Value}
theorem FX.glo (F : FX fx fn K mg) (i : Nat) {x : Str} (h : fx[i]? = some (xGlo x) := by rfl) : mg x = some (.ref (ga K x)) := F.m1 _ _ (He.eqO_ok (F.fact i h))
theorem FX.free (F : FX fx fn K mg) (i : Nat) {x : Str} (h : fx[i]? = some (xFree x) := by rfl) : mg x = none := F.m0 _ (He.eqO_ok (F.fact i h))
theorem FX.blt (F : FX fx fn K mg) (i : Nat) {x : Str} {u : String} (h : fx[i]? = some (xBlt x u) := by rfl) : mg x = some (.builtin u) := F.m1 _ _ (He.eqO_ok (F.fact i h))
theorem FX.int (F : FX fx fn K mg) (i : Nat) {x : Str} {n : Int} (h : fx[i]? = some (xInt x n) := by rfl) : ∃ t, mg x = some (.int n t) := by
  have c2 : (match PySem.W.nsIn K mainGlobals x with
    | some (some (.int k _)) => decide (k = n)
    | _ => false) = true := F.fact i h
  split at c2
  · rename_i k t e
    have ek : k = n := of_decide_eq_true c2
    subst ek
    exact ⟨t, F.m1 _ _ e⟩
  · cases c2
theorem de_gint {G : Gm} {W : WX} {X : Cx} {x : Str} {n : Int} {pos : Pos} (hm : ∃ t, X.mg x = some (.int n t)) (hg : Gl X x := by rfl) (hd : (x == ("__debug__" : Str)) = false := by decide) : PE X (.Name x pos) (dE G W (eC (.int n))) := by
  obtain ⟨t, e⟩ := hm
  exact de_c (pe_glob hg e ⟨t, rfl⟩ hd)
theorem FX.cls (F : FX fx fn K mg) (i : Nat) {x : Str} (h : fx[i]? = some (xCls x) := by rfl) : Cls K (ga K x) := He.cls_ok (F.fact i h)
theorem FX.noat (F : FX fx fn K mg) (i : Nat) {x f : Str} (h : fx[i]? = some (xNoat x f) := by rfl) : NoAttr K (ga K x) f := He.noat_ok (F.fact i h)
theorem FX.meth (F : FX fx fn K mg) (i : Nat) {x m : Str} (h : fx[i]? = some (xMeth x m) := by rfl) : Meth K (ga K x) m (ma K (ga K x) m) := He.meth_ok (F.fact i h)
theorem FX.mkr (F : FX fx fn K mg) (i : Nat) {x : Str} (h : fx[i]? = some (xMkr x) := by rfl) : Mk K (ga K x) (ma K (ga K x) "__init__") := He.mkr_ok (F.fact i h)
theorem FX.ini0 (F : FX fx fn K mg) (i j : Nat) {x : Str} (h : fx[i]? = some (xExc x) := by rfl) (hj : fx[j]? = some (xGlo x) := by rfl) : Ini0 K mg (ga K x) x := by
  obtain ⟨h1, h2, h3, h4⟩ := He.exc_ok (F.fact i h)
  exact ⟨⟨_, _, _, _, PySem.F.excBase_ValueError, h1⟩, h2, F.glo j hj, h3, h4⟩
theorem FX.is (F : FX fx fn K mg) (i : Nat) {x : Str} (h : fx[i]? = some (xIs x) := by rfl) : IsC K (ga K x) := by
  have z := F.fact i h
  unfold xIs isB at z
  simp only [Bool.and_eq_true, decide_eq_true_eq] at z
  obtain ⟨h1, h2, h3, h4, h5⟩ := z
  exact ⟨He.cls_ok h1, h2, h3, h4, h5⟩
theorem FX.exI (F : FX fx fn K mg) (i : Nat) {x : Str} (h : fx[i]? = some (xExI x) := by rfl) : ExcI K (ga K x) := by
  have z := F.fact i h
  unfold xExI exB at z
  simp only [Bool.and_eq_true, decide_eq_true_eq] at z
  obtain ⟨h1, h2, h3, h4, h5, h6, h7, h8⟩ := z
  exact ⟨h1, h2, h3, h4, h5, h6, h7, h8⟩
theorem FX.kit (F : FX fx fn K mg) (i : Nat) {t c : Nm} {b : Bool} (h : fx[i]? = some (xKit t c b) := by rfl) : PySem.W.kitOne K (t.u K) (c.u K) = some b := of_decide_eq_true (F.fact i h)
theorem FX.kitA (F : FX fx fn K mg) (i : Nat) {t : Nm} {cs : List Nm} {b : Bool} (h : fx[i]? = some (xKitA t cs b) := by rfl) : PySem.W.kitAny K (t.u K) (cs.map (Nm.u K)) = some b := of_decide_eq_true (F.fact i h)
theorem FX.exmB (F : FX fx fn K mg) (i : Nat) {x : Str} {c : Nm} {b : Bool} (h : fx[i]? = some (xExmB x c b) := by rfl) : PySem.W.exmOne K (.ref (ga K x)) (c.u K) = some b := of_decide_eq_true (F.fact i h)
theorem FX.xf (F : FX fx fn K mg) (i : Nat) {x f : Str} (h : fx[i]? = some (xXf x f) := by rfl) : XfC K (ga K x) ∧ PySem.W.findIn K (.ref (ga K x)) f = some none := by
  obtain ⟨h1, h2⟩ := Bool.and_eq_true_iff.mp (F.fact i h)
  exact ⟨xfB_ok h1, of_decide_eq_true h2⟩
/-- the error's __init__, from its text -/
theorem FX.ini (F : FX fx fn K mg) (i a s : Nat) {P : Program} {w : World} {x f : Str} {d : He.DefD} {m : Str} {j : Nat} {p0 p1 p2 p3 p4 p5 p6 p7 p8 p9 : Pos} {pl : Sem Bool} {nm qual : Str} {params : Arguments}
    (hd : fn[a]? = some ⟨d, ["__class__"]⟩ := by rfl) (hi : fx[i]? = some (xIni P.main.file x f) := by rfl) (hs : fx[s]? = some (xFree "super") := by rfl) (hat : d.at_ = (x, some ("__init__" : Str)) := by rfl)
    (hv : (⟨d, ["__class__"]⟩ : DD).val = some (nm, qual, params, FuncBody.stmts (inBody m f j p0 p1 p2 p3 p4 p5 p6 p7 p8 p9), inScope f, mainGlobals, [("__class__" : Str)], builtinsNs) := by rfl)
    (hev : inEv m j p0 p1 p2 p3 p4 pl) (htop : (P.main.scope.names.lookup ("super" : Str)).isSome = false)
    (hpar : ∃ ar, (params.posonlyargs ++ params.args).head? = some ar ∧ ar.arg = "self")
    (hb : ∀ (kV doc pm : Value) (an : Option Addr) (cdv ct : Value) (cc : Addr) (us : List Value), us.length = 2 → bindArgs (PySem.W.ksFn nm qual params (inBody m f j p0 p1 p2 p3 p4 p5 p6 p7 p8 p9) (inScope f) .none kV doc pm an cdv ct cc) ⟨us, []⟩ = pure ([("self" : Str), f].zip us))
    (hx : ((f == ("self" : Str)) || (("super" : Str) == f) || (("__class__" : Str) == f) || (f == ("__debug__" : Str)) || (f == ("__classdict__" : Str))) = false := by decide) : InitF P w K mg (ga K x) (fAd K (x, some ("__init__" : Str))) f := by
  have z := F.fact i hi
  unfold xIni initB at z
  simp only [Bool.and_eq_true, decide_eq_true_eq] at z
  obtain ⟨h0, h1, h2, h3, h4, h5, h6, h7, h8, h9⟩ := z
  simp only [Bool.or_eq_false_iff] at hx
  obtain ⟨⟨⟨⟨x1, x2⟩, x3⟩, x4⟩, x5⟩ := hx
  have e := F.name a hd
  rw [hv, hat] at e
  unfold fnN at e
  split at e
  · rename_i oc od fd osl q
    obtain ⟨n1, n2, n3, n4, n5, n6, n7, n8, n9, n10, n11, n12, n13, n14, n15⟩ := fd
    simp only [Option.some.injEq, Prod.mk.injEq] at e
    obtain ⟨e1, e2, e3, e4, e5, e6, e7, e8⟩ := e
    rw [q] at h0
    subst e1 e2 e3 e4 e5 e6 e8
    dsimp only at h0
    split at h0
    · rename_i _ _ _ cda nn cc
      simp only [Bool.and_eq_true] at h0
      obtain ⟨g1, g2, g3⟩ := h0
      have en : nn = "__class__" := by simpa using e7
      subst en
      refine ⟨⟨PySem.W.ksFn n1 n2 n3 (inBody m f j p0 p1 p2 p3 p4 p5 p6 p7 p8 p9) (inScope f) .none n9 n10 n11 n12 (.ref cda) n14 cc, fun CX base A outer s1 H args us vs Q E hroom e0 bd rv h => ?_, fun s1 us X hl => ?_⟩, oexB_ok h3, h8, h9⟩
      rotate_left
      · exact .of_eq (by rw [hb _ _ _ _ _ _ _ us (by simpa using hl)]; rw [List.append_nil])
      · refine init_run (C := ga K x) (D := ga K x) hev ⟨g1, ?_, ?_, h1, h2, F.free s hs, htop, oexB_ok h3, h4, h5, h6, h7, x1, x2, x3, x4, x5, hpar⟩ q hroom e0 bd rv h
        · split at g2
          · rename_i o1 o2 vs o3 q2
            split at g2
            · rename_i fl tk q3
              exact ⟨o1, o2, vs, o3, fl, tk, q2, q3, g2⟩
            · cases g2
          · cases g2
        · split at g3
          · rename_i o1 o2 D o3 q2
            rw [← of_decide_eq_true g3]
            exact ⟨o1, o2, o3, q2⟩
          · cases g3
    · cases h0
  · cases e
end

/-! ### a law's end -/
theorem walk_ofP {l : PySem.W.OpenLaw} {n k : Nat} {q : Program} {loose : List Str} {XP : (Str → Option Value) → Heap → Prop} {YP : World → Heap → Prop} {d : DefRec} {x : Str}
    (hn : l.most = some n) (hn2 : n ≤ sizeLine) (hdf : d.params.defaults = []) (hr : Room k callerA)
    (F : ∀ (w : World) (mg : Str → Option Value) (fa : Addr) (h : Heap), YP w h → h.Ns mainGlobals mg → mg d.name = some (.ref fa) →
      ∃ (K : PySem.W.Frag) (fd : FuncData) (sp : Sp), K.In h ∧ (∀ (s : Shared) (u : Value), BindsTo s fd ⟨[u], []⟩ [(x, u)]) ∧
        (∀ (H : Hp) (a : Addr) (ns : List Int), ns.length ≤ n → (∀ z ∈ ns, Builtin.Int.intBits z ≤ 1048576) → Only H → SqL K H a (ns.map V.int) → sp [.ref a] H (fun v _ => v = .bl true) fun _ _ _ => False) ∧
        ∀ base : Heap, K.In base → base.Ns mainGlobals mg → FnOk l.prog w K mg base (L2N.CX l.prog w) k fa fd [x] sp) :
    PySem.W.WalkO q loose XP YP l.row.toRowW d [] (fun f vs => PySem.call f vs) := by
  refine Att.attach_callB hn hdf fun w s0 s1 mg mb fa o pm cd doc a vs ns G Y ho hd hcd hmg hobj hints hlen hbits hg => ?_
  obtain ⟨K, fd, sp, KX, hb, hsp, hF⟩ := F w mg fa _ Y G.T.g hmg
  refine law_call KX G.T.g G.T.b G.T.builtins G.T.nolimit hg hobj hints (Nat.le_trans hlen hn2) hr hF hb (fun H hO hS => hsp H a ns hlen hbits hO hS) fun H e s' c => ?_
  obtain ⟨_, _, _, _, _, _, _, _, _, _, _, _, z⟩ := c
  exact z
/-- the script as plain data -/
def scr (ns : List Int) : T := .nd .sh .fro (ns.map fun i => T.sc (.int i))
theorem srep_ints {G : Gam} {B : Hp} : ∀ ns : List Int, SRepL G B (ns.map V.int) (ns.map fun i => T.sc (.int i))
  | [] => trivial
  | _ :: r => ⟨rfl, srep_ints r⟩
/-- the law's def says true -/
theorem spT_law {G : Gam} {N : List Str} {F : FT} {H : Hp} {a : Addr} {ns : List Int} {r : Env} (hN : 1 ≤ N.length) (hS : SqL G.K H a (ns.map V.int)) (h : F [scr ns] = .ok (r, .sc (.bl true))) : spT G.bot N 1 F [.ref a] H (fun v _ => v = .bl true) fun _ _ _ => False := by
  refine ⟨H, [scr ns], rfl, ?_, ?_⟩
  · have ez : ∀ e ∈ zl (start N [.ref a]) (entry N.length [scr ns]), e = (some (.ref a), some (scr ns)) ∨ e.2 = none := fun e he => by
      rcases start_mem rfl he with q | ⟨p, v, t, rfl, h1, h2⟩
      · exact .inr (by rw [q])
      · cases p with
        | zero =>
          cases h1
          cases h2
          exact .inl rfl
        | succ p => cases h1
    have na : ∀ e ∈ zl (start N [.ref a]) (entry N.length [scr ns]), ∀ b, adr e ≠ some b := fun e he b z => by
      obtain ⟨f, k, xs, e1, e2⟩ := adr_own z
      rcases ez e he with q | q
      · rw [e1] at q
        cases q
        cases e2
      · rw [e1] at q
        cases q
    refine ⟨?_, fun e he i ei => ?_, ⟨Same.refl _, fun e he => ?_, ?_, fun _ _ z => by cases z⟩, True.intro⟩
    · unfold L2.start entry
      simp
    · rcases ez e he with q | q
      · rw [q] at ei
        cases ei
      · rw [q] at ei
        cases ei
    · rcases ez e he with q | q
      · rw [q]
        exact ⟨rfl, a, ns.map V.int, rfl, hS, srep_ints ns⟩
      · obtain ⟨v, t⟩ := e
        cases q
        cases v <;> exact trivial
    · exact List.pairwise_iff_getElem.mpr fun i j hi hj _ b z => absurd z (na _ (List.getElem_mem hi) b)
  · rw [h]
    intro v σ' B' H' s
    exact s.stp.st.rep (some v, some (.sc (.bl true))) (List.mem_append_right _ (List.mem_singleton.mpr rfl))
end PD
end PartPDM

section PartPDN
set_option Elab.async false
set_option linter.all false
set_option maxRecDepth 100000
set_option maxHeartbeats 4000000
/-! ### defs called within an except suite; tables -/
namespace PD
open PySem L2 PySem.Spec PyProof.Rows

abbrev cxNo : CXT := fun _ _ _ _ _ _ => False
theorem takes_no {X : Cx} : L2N.Takes X noX := fun _ _ ⟨_, _, _, _, _, _, _, _, _, _, _, _, _, _, _, _, w⟩ => w.elim
theorem fnokH {P : Program} {w : World} {K : PySem.W.Frag} {mg : Str → Option Value} {base : Heap} {x qual : Str} {params : Arguments} {body : List Stmt} {scope : Scope} {dvs : List V} {kws : List (Str × V)} {f : Addr} {fd : FuncData} {N ps : List Str} {k : Nat} {G : Gm} {b : XS}
    (F : FunD K x qual params body scope dvs kws f fd) (S : FnScope N ps scope)
    (der : ∀ (cdv : Value) (A : Around) (outer : List PySem.Env) (s : Shared) (H : Hp) (p : Addr × Obj), L2H.Hot1 A p → L2H.RoomH k (A.deeper (envOfC qual scope s.heap.objs.size f cdv)) →
      PSs (L2H.cxH cxNo P w K mg base N qual scope f cdv A outer s H (fun _ _ _ => False) p) body (dS G noX b)) : L2H.FnH P w K mg base cxNo (k + 1) f fd ps (fun vs H Q _ => spT G N ps.length (runF N.length b) vs H Q fun _ _ _ => False) := by
  obtain ⟨oc, od, dV, kV, doc, pm, an, cdv, ct, osl, rfl, lk, hcd, _, _⟩ := F.ex
  refine L2H.fn_ofH lk hcd S (fun vs H Q E ⟨_, _, h, _⟩ => h) fun A outer s H vs Q E p hot hr h => ⟨_, der cdv A outer s H p hot hr, ?_⟩
  obtain ⟨B, ts, _, ini, h⟩ := h
  refine ⟨B, entry N.length ts, ini, ?_⟩
  unfold runF at h
  cases e : b (entry N.length ts) with
  | ok o =>
    rw [e] at h
    cases o with
    | nx r1 =>
      intro σ' B' H' s
      have q : ES G B' H' σ' r1 B' H' r1 [.non] [.non] := s.init.es.put rfl
      exact h .non σ' B' H' (s.app (q.ss rfl))
    | rt r1 t => exact fun v σ' B' H' s => h v σ' B' H' s
    | bk r1 => exact h.elim
    | ct r1 => exact h.elim
  | err r1 c fs =>
    rw [e] at h
    exact fun d B' H' σ' s x => h d B' H' σ' s x
  | stuck =>
    rw [e] at h
    exact h.elim
structure FnGH (P : Program) (w : World) (K : PySem.W.Frag) (mg : Str → Option Value) (base : Heap) (G : Gam) (k n : Nat) (f : Addr) (F : FT) : Prop where
  ex : ∃ (fd : FuncData) (ps N : List Str), L2H.FnH P w K mg base cxNo k f fd ps (fun vs H Q _ => spT G.bot N ps.length F vs H Q fun _ _ _ => False) ∧ Binds K fd ps [] ∧ ps.length = n ∧ ps.length ≤ N.length ∧ PySem.W.keepIn K (.ref f) = true
theorem de_callH {G : Gm} {X : Cx} {x : Str} {p pos : Pos} {e : Expr} {es : List Expr} {fa : XA} {k n : Nat} {f : Addr} {F : FT} (hF : FnGH X.prog X.w X.K X.mg X.base G k n f F) (hr : L2H.RoomH k X.A) (hc : L2H.HotC X) (hm : X.mg x = some (.ref f)) (ha : PA X (e :: es) (dA G noX fa)) (hg : Gl X x := by rfl) (hdb : (x == ("__debug__" : Str)) = false := by decide)
    (he : starEach (e :: es) X.env = (false, eval e X.env) :: starEach es X.env := by rfl) (hpl : (backTo pos (starEach es X.env)).any (·.1) = false := by rfl) : PE X (.Call (.Name x p) (e :: es) [] pos) (dE G noX (onA fa (callK n F))) := by
  obtain ⟨fd, ps, N, h1, h2, h5, h6, h7⟩ := hF.ex
  refine PE.imp (L2H.pe_callH (E := fun _ _ _ _ => False) h1 hr hc hg hm h7 h2 (fun σ _ _ _ _ _ _ z => z.elim) ha hdb he hpl) fun σ H Q h => ?_
  refine onA_w (q := fun vs H Q => spT G.toGam.bot N ps.length F vs H Q fun _ _ _ => False) (fun σ Q B H r B1 H1 r1 vs ts s h => ?_) σ H Q h
  rw [← h5] at h
  exact call_w (W := noX) h6 σ Q B H r B1 H1 r1 vs ts s h
theorem hot_suite {X : Cx} {a : Addr} {oe : Obj} {pn : List (Addr × Obj)} {cls : Value} {d : Option Addr} (hz : L2N.Zn cls d oe) (hf : ∃ vs, oe.data = .fields vs) : L2H.HotC (X.suite a ((a, oe) :: pn)) := by
  obtain ⟨vs, hd⟩ := hf
  exact ⟨(a, oe), ⟨rfl, vs, hd, hz.2.2 vs hd⟩, List.mem_cons_self⟩
theorem hot_def {P : Program} {w : World} {K : PySem.W.Frag} {mg : Str → Option Value} {base : Heap} {N : List Str} {qual : Str} {scope : Scope} {f : Addr} {cd : Value} {A : Around} {outer : List PySem.Env} {s : Shared} {H : Hp} {E : XK} {p : Addr × Obj} (h : L2H.Hot1 A p) : L2H.HotC (L2H.cxH cxNo P w K mg base N qual scope f cd A outer s H E p) :=
  ⟨p, h, List.mem_cons_self⟩

theorem boot_ValueError : bootBuiltins "ValueError" = some (.type "ValueError") := L2.boot_ValueError
/-! tables -/
theorem tab_nil {α β : Type} [BEq α] {P : α → β → Prop} : ∀ c i, List.lookup c ([] : List (α × β)) = some i → P c i := fun c i h => by cases h
theorem tab_cons {α β : Type} [BEq α] [LawfulBEq α] {P : α → β → Prop} {a : α} {b : β} {tb : List (α × β)} (h : P a b) (t : ∀ c i, tb.lookup c = some i → P c i) : ∀ c i, List.lookup c ((a, b) :: tb) = some i → P c i := fun c i e => by
  rw [List.lookup_cons] at e
  split at e
  · rename_i q
    have q2 := eq_of_beq q
    subst q2
    cases e
    exact h
  · exact t c i e
theorem tm_nil {X : Cx} {G : Gm} {m : Str} : ∀ c n F ds, List.lookup c ([] : MTab) = some (n, F, ds) → MOk X G m c n F ds := fun c n F ds h => by cases h
theorem tm_cons {X : Cx} {G : Gm} {m : Str} {a n0 : Nat} {F0 : FT} {ds0 : List T} {tb : MTab} (h : MOk X G m a n0 F0 ds0) (t : ∀ c n F ds, tb.lookup c = some (n, F, ds) → MOk X G m c n F ds) : ∀ c n F ds, List.lookup c ((a, n0, F0, ds0) :: tb) = some (n, F, ds) → MOk X G m c n F ds := fun c n F ds e => by
  rw [List.lookup_cons] at e
  split at e
  · rename_i q
    have q2 := eq_of_beq q
    subst q2
    cases e
    exact h
  · exact t c n F ds e
def cAdd : Int → Int → Option V := fun i j => some (.int (i + j))
theorem o_addI {G : Gm} {W : WX} : Op2 G W (rI0 fun i j => .int (i + j)) (gII cAdd) := o_II0
theorem o_subI {G : Gm} {W : WX} : Op2 G W (rI0 fun i j => .int (i - j)) (gII cSub) := o_II0
/-! a comparison as a test -/
def tCmp (f : XE) : XT := fun r => match f r with
  | .ok (r1, .sc (.bl b)) => .ok (r1, b)
  | .ok _ => .stuck
  | .err r c fs => .err r c fs
  | .stuck => .stuck
theorem tCmp_w {G : Gm} {W : WX} {f : XE} (σ : L2.St) (H : Hp) (Q : Bool → Hp → Prop) (h : dT G W (tCmp f) σ H Q) : dE G W f σ H (fun v H1 => ∃ b, v = .bl b ∧ Q b H1) := by
  obtain ⟨B, r, ini, h⟩ := h
  refine ⟨B, r, ini, ?_⟩
  unfold tCmp at h
  cases e : f r with
  | stuck =>
    rw [e] at h
    exact h
  | err r1 c fs =>
    rw [e] at h
    exact h
  | ok p =>
    obtain ⟨r1, t⟩ := p
    rw [e] at h
    intro v B1 H1 s
    split at h
    · rename_i r2 b q
      cases q
      have ev := s.sc (i := 0) (v := v) rfl rfl
      exact ⟨b, ev, h B1 H1 s.drop⟩
    · exact h.elim
    · rename_i q
      cases q
    · rename_i q
      cases q
theorem dt_cmp {G : Gm} {W : WX} {X : Cx} {a b : Expr} {fa fb : XE} {pos : Pos} {op : CmpOp} {q : R2} {g : Env → T → T → Res (Env × T)} (ho : OpR X (compareOp op) q) (o : Op2 G W q g) (ha : PE X a (dE G W fa)) (hb : PE X b (dE G W fb)) (hm : behindInMarks op b = false := by exact nomark _) : PT X (.Compare a [op] [b] pos) (dT G W (tCmp (bin fa fb g))) :=
  PT.imp (pt_cmpR ho ha hb hm) fun σ H Q h => bin_w o σ H _ (tCmp_w σ H Q h)
end PD
end PartPDN

section PartPDO
set_option Elab.async false
set_option linter.all false
set_option maxRecDepth 100000
set_option maxHeartbeats 4000000
/-! ### codes, applied: for the simplifier -/
namespace PD
open PySem L2

@[simp] theorem XS_andThen_ap (f : XS) (k : XS) (r : Env) : XS.andThen f k r = (match f r with
  | .ok (.nx r1) => k r1
  | .ok o => .ok o
  | .err r c fs => .err r c fs
  | .stuck => .stuck) := rfl
@[simp] theorem bin_ap (fa fb : XE) (g : Env → T → T → Res (Env × T)) (r : Env) : bin fa fb g r = (match fa r with
  | .ok (r1, t1) => (match fb r1 with
    | .ok (r2, t2) => g r2 t1 t2
    | .err r c fs => .err r c fs
    | .stuck => .stuck)
  | .err r c fs => .err r c fs
  | .stuck => .stuck) := rfl
@[simp] theorem un_ap (fa : XE) (g : Env → T → Res (Env × T)) (r : Env) : un fa g r = (match fa r with
  | .ok (r1, t1) => g r1 t1
  | .err r c fs => .err r c fs
  | .stuck => .stuck) := rfl
@[simp] theorem onA_ap (fa : XA) (g : Env → List T → Res (Env × T)) (r : Env) : onA fa g r = (match fa r with
  | .ok (r1, t1) => g r1 t1
  | .err r c fs => .err r c fs
  | .stuck => .stuck) := rfl
@[simp] theorem eC_ap (u : V) (r : Env) : eC u r = (.ok (r, .sc u)) := rfl
@[simp] theorem eV_ap (i : Nat) (r : Env) : eV i r = (match r[i]? with
  | some (some t) => (match t with
    | .sc u => .ok (r, .sc u)
    | .nd .sh k xs => .ok (r, .nd .sh k xs)
    | .nd _ _ _ => .ok (r, .rf i)
    | .rf _ => .stuck)
  | _ => .stuck) := rfl
@[simp] theorem eSh_ap (t : T) (r : Env) : eSh t r = (.ok (r, t)) := rfl
@[simp] theorem gI_ap (C : Int → Int → Bool) (g : Int → Int → V) (r : Env) (t : T) (u : T) : gI C g r t u = (match t, u with
  | .sc (.int i), .sc (.int j) => if C i j then .ok (r, .sc (g i j)) else .stuck
  | _, _ => .stuck) := rfl
@[simp] theorem sNx_ap (r : Env) : sNx  r = (.ok (.nx r)) := rfl
@[simp] theorem sBk_ap (r : Env) : sBk  r = (.ok (.bk r)) := rfl
@[simp] theorem sCt_ap (r : Env) : sCt  r = (.ok (.ct r)) := rfl
@[simp] theorem setS_ap (i : Nat) (t : T) (r : Env) : setS i t r = (if isRf t || lent (r[i]?.join) then .stuck else .ok (.nx (r.set i (some t)))) := rfl
@[simp] theorem sSet_ap (i : Nat) (f : XE) (r : Env) : sSet i f r = (match f r with
  | .ok (r1, t) => setS i t r1
  | .err r c fs => .err r c fs
  | .stuck => .stuck) := rfl
@[simp] theorem sRet_ap (f : XE) (r : Env) : sRet f r = (match f r with
  | .ok (r1, t) => if isRf t then .stuck else .ok (.rt r1 t)
  | .err r c fs => .err r c fs
  | .stuck => .stuck) := rfl
@[simp] theorem sRetN_ap (r : Env) : sRetN  r = (.ok (.rt r .non)) := rfl
@[simp] theorem sExpr_ap (f : XE) (r : Env) : sExpr f r = (match f r with
  | .ok (r1, _) => .ok (.nx r1)
  | .err r c fs => .err r c fs
  | .stuck => .stuck) := rfl
@[simp] theorem sIf_ap (c : XT) (a b : XS) (r : Env) : sIf c a b r = (testK (c r) a b) := rfl
@[simp] theorem aN_ap (r : Env) : aN  r = (.ok (r, [])) := rfl
@[simp] theorem aC_ap (f : XE) (g : XA) (r : Env) : aC f g r = (match f r with
  | .ok (r1, t) => (match g r1 with
    | .ok (r2, ts) => .ok (r2, t :: ts)
    | .err r c fs => .err r c fs
    | .stuck => .stuck)
  | .err r c fs => .err r c fs
  | .stuck => .stuck) := rfl
@[simp] theorem aD_ap (f : XA) (ds : List T) (r : Env) : aD f ds r = (match f r with
  | .ok (r1, ts) => .ok (r1, ts ++ ds)
  | .err r c fs => .err r c fs
  | .stuck => .stuck) := rfl
@[simp] theorem eMeth_ap (tb : MTab) (fo : XE) (fa : XA) (r : Env) : eMeth tb fo fa r = (match fo r with
  | .ok (r1, t) => (match pk r1 t with
    | .nd _ (.ins c) _ => (match tb.lookup c with
      | some (n, F, ds) => (match fa r1 with
        | .ok (r2, ts) => callK n F r2 (t :: (ts ++ ds))
        | .err r c fs => .err r c fs
        | .stuck => .stuck)
      | none => .stuck)
    | _ => .stuck)
  | .err r c fs => .err r c fs
  | .stuck => .stuck) := rfl
@[simp] theorem storeK_ap (tb : ATab) (i : Nat) (t : T) (r : Env) : storeK tb i t r = (match r[i]? with
  | some (some (.nd f (.ins c) xs)) => (match tb.lookup c with
    | some j => if wrf f && decide (j ≤ xs.length) then .ok (.nx (r.set i (some (.nd f (.ins c) (if j < xs.length then xs.set j t else xs ++ [t]))))) else .stuck
    | none => .stuck)
  | _ => .stuck) := rfl
@[simp] theorem sFldS_ap (tb : ATab) (i : Nat) (f : XE) (r : Env) : sFldS tb i f r = (match eFz f r with
  | .ok (r1, t) => storeK tb i t r1
  | .err r c fs => .err r c fs
  | .stuck => .stuck) := rfl
@[simp] theorem tOf_ap (f : XE) (r : Env) : tOf f r = (match f r with
  | .ok (r1, t) => (match truK r1 t with
    | some b => .ok (r1, b)
    | none => .stuck)
  | .err r c fs => .err r c fs
  | .stuck => .stuck) := rfl
@[simp] theorem tAnd_ap (a b : XT) (r : Env) : tAnd a b r = (match a r with
  | .ok (r1, true) => b r1
  | o => o) := rfl
@[simp] theorem tOr_ap (a b : XT) (r : Env) : tOr a b r = (match a r with
  | .ok (r1, false) => b r1
  | o => o) := rfl
@[simp] theorem tNot_ap (a : XT) (r : Env) : tNot a r = (match a r with
  | .ok (r1, b) => .ok (r1, !b)
  | .err r c fs => .err r c fs
  | .stuck => .stuck) := rfl
@[simp] theorem eAnd_ap (fa fb : XE) (r : Env) : eAnd fa fb r = (match fa r with
  | .ok (r1, .sc (.bl true)) => fb r1
  | .ok (r1, .sc (.bl false)) => .ok (r1, .sc (.bl false))
  | .ok _ => .stuck
  | .err r c fs => .err r c fs
  | .stuck => .stuck) := rfl
@[simp] theorem eOr_ap (fa fb : XE) (r : Env) : eOr fa fb r = (match fa r with
  | .ok (r1, .sc (.bl false)) => fb r1
  | .ok (r1, .sc (.bl true)) => .ok (r1, .sc (.bl true))
  | .ok _ => .stuck
  | .err r c fs => .err r c fs
  | .stuck => .stuck) := rfl
@[simp] theorem eIf_ap (c : XT) (fa fb : XE) (r : Env) : eIf c fa fb r = (match c r with
  | .ok (r1, true) => fa r1
  | .ok (r1, false) => fb r1
  | .err r c fs => .err r c fs
  | .stuck => .stuck) := rfl
theorem gII_ap (g : Int → Int → Option V) (r : Env) (t : T) (u : T) : gII g r t u = (match t, u with
  | .sc (.int i), .sc (.int j) => (match g i j with
    | some v => .ok (r, .sc v)
    | none => .stuck)
  | _, _ => .stuck) := rfl
@[simp] theorem gNeg_ap (r : Env) (t : T) : gNeg  r t = (match t with
  | .sc (.int i) => .ok (r, .sc (.int (-i)))
  | _ => .stuck) := rfl
@[simp] theorem oN_ap (r : Env) : oN  r = (.ok (r, none)) := rfl
@[simp] theorem oE_ap (f : XE) (r : Env) : oE f r = (match f r with
  | .ok (r1, .sc (.int i)) => .ok (r1, some i)
  | .ok _ => .stuck
  | .err r c fs => .err r c fs
  | .stuck => .stuck) := rfl
@[simp] theorem eSl_ap (fe : XE) (lo hi : XO) (r : Env) : eSl fe lo hi r = (match fe r with
  | .ok (r1, t) => (match lo r1 with
    | .ok (r2, a) => (match hi r2 with
      | .ok (r3, b) => gSl r3 t a b
      | .err r c fs => .err r c fs
      | .stuck => .stuck)
    | .err r c fs => .err r c fs
    | .stuck => .stuck)
  | .err r c fs => .err r c fs
  | .stuck => .stuck) := rfl
@[simp] theorem gT_ap (gs : List XG) (t : T) (r : Env) : gT gs t r = (match t with
  | .nd .sh .tup xs => gTs gs xs r
  | .nd .sh .lst xs => gTs gs xs r
  | _ => .stuck) := rfl
@[simp] theorem gU_ap (gs : List XG) (t : T) (r : Env) : gU gs t r = (match t with
  | .nd .sh .tup xs => gTs gs xs r
  | _ => .stuck) := rfl
@[simp] theorem gL_ap (gs : List XG) (t : T) (r : Env) : gL gs t r = (match t with
  | .nd .sh .lst xs => gTs gs xs r
  | _ => .stuck) := rfl
@[simp] theorem sAsg_ap (f : XE) (g : XG) (r : Env) : sAsg f g r = (match f r with
  | .ok (r1, t) => if isSh t then (match g t r1 with
    | .ok (.nx r2) => .ok (.nx r2)
    | _ => .stuck) else .stuck
  | .err r c fs => .err r c fs
  | .stuck => .stuck) := rfl
@[simp] theorem sPar_ap (i j : Nat) (f : XA) (r : Env) : sPar i j f r = (match f r with
  | .ok (r1, [t, u]) => if isSh t && isSh u then (match setS i t r1 with
    | .ok (.nx r2) => (match setS j u r2 with
      | .ok (.nx r3) => .ok (.nx r3)
      | _ => .stuck)
    | _ => .stuck) else .stuck
  | .ok _ => .stuck
  | .err r c fs => .err r c fs
  | .stuck => .stuck) := rfl
@[simp] theorem sAug_ap (i : Nat) (f : XE) (g : Env → T → T → Res (Env × T)) (r : Env) : sAug i f g r = (match r[i]? with
  | some (some (.sc u)) => (match f r with
    | .ok (r1, t) => (match g r1 (.sc u) t with
      | .ok (r2, t2) => setS i t2 r2
      | .err r c fs => .err r c fs
      | .stuck => .stuck)
    | .err r c fs => .err r c fs
    | .stuck => .stuck)
  | _ => .stuck) := rfl
@[simp] theorem sForR_ap (f : XA) (g : XG) (b : XS) (r : Env) : sForR f g b r = (match f r with
  | .ok (r1, [.sc (.int hi)]) => if inR hi then forK g b (rngT 0 hi) r1 else .stuck
  | .ok _ => .stuck
  | .err r c fs => .err r c fs
  | .stuck => .stuck) := rfl
@[simp] theorem sForR2_ap (f : XA) (g : XG) (b : XS) (r : Env) : sForR2 f g b r = (match f r with
  | .ok (r1, [.sc (.int lo), .sc (.int hi)]) => if inR lo && inR hi then forK g b (rngT lo hi) r1 else .stuck
  | .ok _ => .stuck
  | .err r c fs => .err r c fs
  | .stuck => .stuck) := rfl
@[simp] theorem sForL_ap (f : XE) (g : XG) (b : XS) (r : Env) : sForL f g b r = (match f r with
  | .ok (r1, .nd .sh .lst xs) => forK g b xs r1
  | .ok (r1, .nd .ow .lst xs) => forK g b xs r1
  | .ok (r1, .nd .sh .fro xs) => forK g b xs r1
  | .ok (r1, .rf i) => (match r1[i]? with
    | some (some (.nd .sh .lst xs)) => forK g b xs r1
    | some (some (.nd .sh _ _)) => .stuck
    | some (some (.nd f .lst xs)) => mapR (unlk i f) (forK g b xs (lockF i r1))
    | _ => .stuck)
  | .ok _ => .stuck
  | .err r c fs => .err r c fs
  | .stuck => .stuck) := rfl
@[simp] theorem sForU_ap (f : XE) (g : XG) (b : XS) (r : Env) : sForU f g b r = (match f r with
  | .ok (r1, .nd .sh .tup xs) => forK g b xs r1
  | .ok _ => .stuck
  | .err r c fs => .err r c fs
  | .stuck => .stuck) := rfl
@[simp] theorem sErr0_ap (c : Nat) (r : Env) : sErr0 c r = (.err r c []) := rfl
@[simp] theorem sErr1_ap (c : Nat) (fe : XE) (r : Env) : sErr1 c fe r = (match fe r with
  | .ok (r1, t) => if isSh t then .err r1 c [t] else .stuck
  | .err r1 c fs => .err r1 c fs
  | .stuck => .stuck) := rfl
@[simp] theorem sTry_ap (fb : XS) (l : List Hd) (r : Env) : sTry fb l r = (match fb r with
  | .err r1 c fs => runHd l r1 c fs
  | o => o) := rfl
@[simp] theorem eMut_ap (i : Nat) (fa : XA) (g : List T → List T → Option (List T × T)) (r : Env) : eMut i fa g r = (match r[i]? with
  | some (some (.nd _ .lst _)) => (match fa r with
    | .ok (r1, ts) => (match r1[i]? with
      | some (some (.nd f .lst xs)) => if wrf f && ts.all isSh then (match g xs ts with
        | some (ys, t) => .ok (r1.set i (some (.nd f .lst ys)), t)
        | none => .stuck) else .stuck
      | _ => .stuck)
    | .err r c fs => .err r c fs
    | .stuck => .stuck)
  | _ => .stuck) := rfl
@[simp] theorem gSet_ap (i : Nat) (fi : XE) (t : T) (r : Env) : gSet i fi t r = (match r[i]? with
  | some (some (.nd _ .lst _)) => (match fi r with
    | .ok (r1, .sc (.int k)) => (match r1[i]? with
      | some (some (.nd f .lst xs)) => if wrf f then (match ixN xs.length k with
        | some j => .ok (.nx (r1.set i (some (.nd f .lst (xs.set j t)))))
        | none => .stuck) else .stuck
      | _ => .stuck)
    | _ => .stuck)
  | _ => .stuck) := rfl
@[simp] theorem tCmp_ap (f : XE) (r : Env) : tCmp f r = (match f r with
  | .ok (r1, .sc (.bl b)) => .ok (r1, b)
  | .ok _ => .stuck
  | .err r c fs => .err r c fs
  | .stuck => .stuck) := rfl
section
variable {r : Env} {i j : Int}
@[simp] theorem eFz_ap (f : XE) (r : Env) : eFz f r = un f frzK r := rfl
@[simp] theorem eFld_ap (tb : ATab) (f : XE) (r : Env) : eFld tb f r = un f (fldK tb) r := rfl
@[simp] theorem eIsI_ap (tb : List (Tg × Bool)) (f : XE) (r : Env) : eIsI tb f r = un f (isiK tb) r := rfl
@[simp] theorem eNot_ap (f : XE) (r : Env) : eNot f r = un f (fun r t => match t with
  | .sc (.bl b) => .ok (r, .sc (.bl (!b)))
  | _ => .stuck) r := rfl
@[simp] theorem gN_ap (k : Nat) (t : T) (r : Env) : gN k t r = setS k t r := rfl
@[simp] theorem lent_sc (v : V) : lent (some (.sc v)) = false := rfl
@[simp] theorem lent_non : lent none = false := rfl
@[simp] theorem lent_sh (k : Kd) (xs : List T) : lent (some (.nd .sh k xs)) = false := rfl
@[simp] theorem lent_ow (k : Kd) (xs : List T) : lent (some (.nd .ow k xs)) = false := rfl
@[simp] theorem isRf_sc (v : V) : isRf (.sc v) = false := rfl
@[simp] theorem isRf_nd (f : Fl) (k : Kd) (xs : List T) : isRf (.nd f k xs) = false := rfl
@[simp] theorem g_sub : gII cSub r (.sc (.int i)) (.sc (.int j)) = .ok (r, .sc (.int (i - j))) := rfl
@[simp] theorem g_addI : gII cAdd r (.sc (.int i)) (.sc (.int j)) = .ok (r, .sc (.int (i + j))) := rfl
@[simp] theorem g_lt : gII cLt r (.sc (.int i)) (.sc (.int j)) = .ok (r, .sc (.bl (decide (i < j)))) := rfl
@[simp] theorem g_le : gII cLe r (.sc (.int i)) (.sc (.int j)) = .ok (r, .sc (.bl (decide (i ≤ j)))) := rfl
@[simp] theorem g_gt : gII cGt r (.sc (.int i)) (.sc (.int j)) = .ok (r, .sc (.bl (decide (j < i)))) := rfl
@[simp] theorem g_ge : gII cGe r (.sc (.int i)) (.sc (.int j)) = .ok (r, .sc (.bl (decide (j ≤ i)))) := rfl
@[simp] theorem g_add : gAdd r (.sc (.int i)) (.sc (.int j)) = .ok (r, .sc (.int (i + j))) := rfl
@[simp] theorem g_neg : gNeg r (.sc (.int i)) = .ok (r, .sc (.int (-i))) := rfl
theorem g_mod (h : j ≠ 0) : gII cMod r (.sc (.int i)) (.sc (.int j)) = .ok (r, .sc (.int (i.fmod j))) := by
  unfold gII cMod
  simp [h]
theorem g_mul (h : mulOk i j = true) : gMul r (.sc (.int i)) (.sc (.int j)) = .ok (r, .sc (.int (i * j))) := by
  show (if mulOk i j then _ else _) = _
  rw [if_pos h]
theorem g_div (h : divOk i j = true) : gII cDiv r (.sc (.int i)) (.sc (.int j)) = .ok (r, .sc (.int (i.fdiv j))) := by
  unfold gII cDiv
  simp [h]
theorem g_pow (h : powOk i j = true) : gII cPow r (.sc (.int i)) (.sc (.int j)) = .ok (r, .sc (.int (i ^ j.toNat))) := by
  unfold gII cPow
  simp [h]
theorem dec_int : decide (V.int i = V.int j) = decide (i = j) := decide_eq_decide.mpr ⟨fun h => V.int.inj h, fun h => congrArg V.int h⟩
@[simp] theorem g_eqI : gEq r (.sc (.int i)) (.sc (.int j)) = .ok (r, .sc (.bl (decide (i = j)))) := by
  rw [← dec_int]
  rfl
@[simp] theorem g_neI : gNe r (.sc (.int i)) (.sc (.int j)) = .ok (r, .sc (.bl (!decide (i = j)))) := by
  rw [← dec_int]
  rfl
@[simp] theorem eXf_ap (tb : List (Nat × Nat)) (c : Nat) (fs : List T) (r : Env) : eXf tb c fs r = (match tb.lookup c with
  | some j => (match fs[j]? with
    | some t => .ok (r, t)
    | none => .stuck)
  | none => .stuck) := rfl
@[simp] theorem eIsE_ap (tb : List (Nat × Bool)) (c : Nat) (r : Env) : eIsE tb c r = (match tb.lookup c with
  | some b => .ok (r, .sc (.bl b))
  | none => .stuck) := rfl
end
/-! sizes -/
/-- |i| < 2 ^ n -/
class Bd (n : outParam Nat) (i : Int) : Prop where
  lt : i.natAbs < 2 ^ n
theorem Bd.bits {n : Nat} {i : Int} (h : Bd n i) : bitsOf i ≤ n := by
  unfold bitsOf Builtin.Int.intBits
  by_cases z : i = 0
  · subst z
    exact Nat.zero_le _
  · have e : (i == 0) = false := beq_eq_false_iff_ne.mpr z
    rw [e]
    have := h.lt
    exact (Nat.log2_lt (Int.natAbs_ne_zero.mpr z)).mpr this
theorem mulOk_bd {a b : Nat} {i j : Int} [hi : Bd a i] [hj : Bd b j] (h : a + b ≤ 134217728) : mulOk i j = true := decide_eq_true (Nat.le_trans (Nat.add_le_add hi.bits hj.bits) h)
theorem divOk_bd {b : Nat} {i j : Int} [hj : Bd b j] (h0 : j ≠ 0) (h : b ≤ 9000) : divOk i j = true := by
  unfold divOk Builtin.divisionGoesByPylong
  have e : (j == 0) = false := beq_eq_false_iff_ne.mpr h0
  have hb : j.natAbs.log2 < 9000 := Nat.lt_of_lt_of_le ((Nat.log2_lt (Int.natAbs_ne_zero.mpr h0)).mpr hj.lt) h
  have n0 : (j != 0) = true := by simp [h0]
  simp only [e, n0, Bool.true_and, Bool.false_eq_true, if_false]
  have : ¬ (j.natAbs.log2 / 30 + 1 > 300) := by omega
  simp [this]
theorem Bd.mk' {n : Nat} {i : Int} (h1 : -(2 ^ n : Int) < i) (h2 : i < (2 ^ n : Int)) : Bd n i := ⟨by
  have e : ((2 ^ n : Nat) : Int) = (2 : Int) ^ n := by simp
  omega⟩
instance Bd.mul {a b : Nat} {i j : Int} [hi : Bd a i] [hj : Bd b j] : Bd (a + b) (i * j) := ⟨by
  rw [Int.natAbs_mul, Nat.pow_add]
  exact Nat.mul_lt_mul'' hi.lt hj.lt⟩
theorem pow_two_max {a b : Nat} : 2 ^ a ≤ 2 ^ max a b ∧ 2 ^ b ≤ 2 ^ max a b := ⟨Nat.pow_le_pow_right (by decide) (Nat.le_max_left _ _), Nat.pow_le_pow_right (by decide) (Nat.le_max_right _ _)⟩
instance Bd.add {a b : Nat} {i j : Int} [hi : Bd a i] [hj : Bd b j] : Bd (max a b + 1) (i + j) := ⟨by
  have := hi.lt
  have := hj.lt
  obtain ⟨h1, h2⟩ := pow_two_max (a := a) (b := b)
  rw [Nat.pow_succ]
  have := Int.natAbs_add_le i j
  omega⟩
instance Bd.sub {a b : Nat} {i j : Int} [hi : Bd a i] [hj : Bd b j] : Bd (max a b + 1) (i - j) := ⟨by
  have := hi.lt
  have := hj.lt
  obtain ⟨h1, h2⟩ := pow_two_max (a := a) (b := b)
  rw [Nat.pow_succ]
  omega⟩
instance Bd.neg {a : Nat} {i : Int} [hi : Bd a i] : Bd a (-i) := ⟨by
  rw [Int.natAbs_neg]
  exact hi.lt⟩
end PD
end PartPDO

section PartPDP
set_option Elab.async false
set_option linter.all false
set_option maxRecDepth 100000
set_option maxHeartbeats 4000000
/-! ### an own object leaves its slot by return -/
namespace PD
open PySem L2 PySem.Spec PyProof.Rows

def sRetM (f : XE) : XS := fun r => match f r with
  | .ok (r1, .rf i) => (match r1[i]? with
    | some (some (.nd .ow k xs)) => .ok (.rt (r1.set i none) (.nd .ow k xs))
    | _ => .stuck)
  | .ok (r1, t) => .ok (.rt r1 t)
  | .err r c fs => .err r c fs
  | .stuck => .stuck
section
variable {G : Gm} {W : WX} {X : Cx} {B H B1 H1 : Hp} {σ : L2.St} {r r1 : Env}
theorem ES.mv {v : V} {i : Nat} {k : Kd} {xs : List T} (s : ES G B H σ r B1 H1 r1 [v] [.rf i]) (hr : r1[i]? = some (some (.nd .ow k xs))) : SS G B H σ r B1 H1 σ (r1.set i none) [v] [.nd .ow k xs] := by
  obtain ⟨f', k', xs', h3⟩ := s.rep (i := 0) (v := v) (t := .rf i) rfl rfl
  have lt : i < (zl σ r).length := s.es.rn _ (prs_mem (i := 0) (vs := [v]) (ts := [T.rf i]) rfl rfl) i rfl
  rw [List.getElem?_append_left (by rw [s.es.len]; exact lt)] at h3
  have h4 := (zl_get h3).2
  rw [hr] at h4
  cases h4
  have hs := (zl_get h3).1
  have ini := s.init
  have st := ini.st
  have e1 : σ.set i (some v) = σ := by
    apply List.ext_getElem?
    intro j
    by_cases e : i = j
    · subst e
      rw [List.getElem?_set_self (get_lt hs), hs]
    · rw [List.getElem?_set_ne e]
  have e0 : zl σ (r1.set i none) = (zl σ r1).set i (some v, none) := by
    have z := zip_set σ r1 i (some v) (none : Option T)
    rw [e1] at z
    exact z
  have na : ∀ a, adr (some v, none) ≠ some a := fun a z => by
    obtain ⟨_, _, _, e, _⟩ := adr_own z
    cases e
  have old : ∀ (e : Ent), e ∈ (zl σ r1).set i (some v, none) → (∃ j, j ≠ i ∧ (zl σ r1)[j]? = some e) ∨ e = (some v, none) := fun e he => by
    rcases mem_set_ix he with ⟨j, h1, h2⟩ | ⟨h1, _⟩
    · exact .inl ⟨j, h1, h2⟩
    · exact .inr h1
  have own' : ∀ a, Own ((zl σ r1).set i (some v, none) ++ [(some v, some (.nd .ow k xs))]) a → Own (zl σ r1) a := fun a ⟨e, he, ha⟩ => by
    rcases List.mem_append.mp he with q | q
    · rcases old e q with ⟨j, _, h2⟩ | h2
      · exact ⟨e, List.mem_of_getElem? h2, ha⟩
      · subst h2
        exact absurd ha (na a)
    · have z := List.mem_singleton.mp q
      subst z
      exact ⟨_, List.mem_of_getElem? h3, ha⟩
  have wr' : ∀ a, Wr ((zl σ r1).set i (some v, none) ++ [(some v, some (.nd .ow k xs))]) a → Wr (zl σ r1) a := fun a ⟨f, k2, ys, he, hf⟩ => by
    rcases List.mem_append.mp he with q | q
    · rcases old _ q with ⟨j, _, h2⟩ | h2
      · exact ⟨f, k2, ys, List.mem_of_getElem? h2, hf⟩
      · cases h2
    · have z := List.mem_singleton.mp q
      cases z
      exact ⟨_, _, _, List.mem_of_getElem? h3, hf⟩
  have z := s.drop.es.stp
  refine { len := by rw [List.length_set]; exact s.len, ls := rfl, lv := rfl, nr := ?_, rn := ?_, kp := ?_, stp := ?_, ps := s.ps }
  · rw [e0]
    intro e he j ej
    rcases old e he with ⟨j', _, h2⟩ | h2
    · exact ini.nr e (List.mem_of_getElem? h2) j ej
    · subst h2
      cases ej
  · intro e he j ej
    have q := List.mem_singleton.mp he
    subst q
    cases ej
  · rw [e0]
    intro j w f k2 ys e l
    obtain ⟨zs, e5⟩ := s.es.ke.kept j w f k2 ys e l
    have nij : i ≠ j := fun q => by
      subst q
      have e2 := (zl_get e5).2
      rw [hr] at e2
      cases e2
      rcases l with l | l <;> cases l
    exact ⟨zs, by rw [List.getElem?_set_ne nij]; exact e5⟩
  · rw [e0]
    show Stp G B H (zl σ r) B1 H1 ((zl σ r1).set i (some v, none) ++ [(some v, some (.nd .ow k xs))])
    have z2 : Stp G B H (zl σ r) B1 H1 (zl σ r1) := by
      have z3 : Stp G B H (zl σ r) B1 H1 (zl σ r1 ++ []) := z
      rw [List.append_nil] at z3
      exact z3
    refine { st := ⟨st.sub, fun e he => ?_, ?_, st.floor⟩, ex := z2.ex, fr := z2.fr, nw := fun a h => z2.nw a (own' a h), ww := fun a h => z2.ww a (wr' a h), nb := z2.nb }
    · rcases List.mem_append.mp he with q | q
      · rcases old e q with ⟨j, _, h2⟩ | h2
        · exact rep_idx (fun i' y ej _ => absurd (ini.nr e (List.mem_of_getElem? h2) i' ej) (Nat.not_lt_zero i')) (st.rep e (List.mem_of_getElem? h2))
        · subst h2
          exact trivial
      · have q2 := List.mem_singleton.mp q
        subst q2
        have rp := st.rep _ (List.mem_of_getElem? h3)
        exact rep_idx (fun i' y ej _ => by cases ej) rp
    · refine List.pairwise_append.mpr ⟨pw_set sep_sy i (List.pairwise_append.mpr ⟨st.sep, List.pairwise_singleton _ _, fun e he e' he' a ha ha' => ?_⟩), List.pairwise_singleton _ _, fun e he e' he' a ha ha' => ?_⟩
      · have q := List.mem_singleton.mp he'
        subst q
        exact na a ha'
      · have q := List.mem_singleton.mp he'
        subst q
        rcases old e he with ⟨j, hj, h2⟩ | h2
        · exact hj (sep_ix st.sep h2 h3 ha ha')
        · subst h2
          exact na a ha
theorem ds_retM {e : Expr} {fe : XE} {pos : Pos} (h : PE X e (dE G W fe)) : PS X (.Return (some e) pos) (dS G W (sRetM fe)) := PS.imp (ps_ret h) fun D σ H h => by
  obtain ⟨B, r, i, h⟩ := h
  refine ⟨B, r, i, ?_⟩
  unfold sRetM at h
  cases e : fe r with
  | ok p =>
    obtain ⟨r1, t⟩ := p
    rw [e] at h
    intro v B1 H1 s
    cases t with
    | sc u => exact h v σ B1 H1 (s.ss rfl)
    | nd f k xs => exact h v σ B1 H1 (s.ss rfl)
    | rf j =>
      have h : dSp G W D σ B H r (match r1[j]? with
        | some (some (.nd .ow k xs)) => .ok (.rt (r1.set j none) (.nd .ow k xs))
        | _ => .stuck) := h
      split at h
      · rename_i k xs hj
        exact h v σ B1 H1 (s.mv hj)
      · exact h.elim
  | err r1 c fs =>
    rw [e] at h
    exact wErrS.of h
  | stuck =>
    rw [e] at h
    exact h
@[simp] theorem sRetM_ap (f : XE) (r : Env) : sRetM f r = (match f r with
  | .ok (r1, .rf i) => (match r1[i]? with
    | some (some (.nd .ow k xs)) => .ok (.rt (r1.set i none) (.nd .ow k xs))
    | _ => .stuck)
  | .ok (r1, t) => .ok (.rt r1 t)
  | .err r c fs => .err r c fs
  | .stuck => .stuck) := rfl
end
end PD
end PartPDP

section PartLk70
set_option Elab.async false
set_option linter.all false
set_option maxRecDepth 100000
set_option maxHeartbeats 0
namespace Law
open PySem PySem.Spec PyProof.Rows L2 PD
open He (ga ma)
abbrev rw : PySem.W.OpenLaw := PySem.Challenge.rw_goodturns_k70_teeth_by_definition
abbrev pw : Program := PySem.Challenge.pw_goodturns_k70_teeth_by_definition
def top (i : Nat) : Stmt := PySem.Challenge.pw_goodturns_k70_teeth_by_definition.main.body.getD i (.Pass ⟨0, 0, 0, 0⟩)
def d__law_mixed_d : He.DefD := ⟨("_law_mixed", none), "_law_mixed", "_law_mixed", defArgs (top 19), defBody (top 19), defScope (top 19), [], []⟩
def d__law_pool_d : He.DefD := ⟨("_law_pool", none), "_law_pool", "_law_pool", defArgs (top 20), defBody (top 20), defScope (top 20), [], []⟩
def d__law_draw_d : He.DefD := ⟨("_law_draw", none), "_law_draw", "_law_draw", defArgs (top 21), defBody (top 21), defScope (top 21), [], []⟩
def d__law_gcd_d : He.DefD := ⟨("_law_gcd", none), "_law_gcd", "_law_gcd", defArgs (top 25), defBody (top 25), defScope (top 25), [], []⟩
def d__law_lowest_d : He.DefD := ⟨("_law_lowest", none), "_law_lowest", "_law_lowest", defArgs (top 26), defBody (top 26), defScope (top 26), [], []⟩
def d__law_exchanged_d : He.DefD := ⟨("_law_exchanged", none), "_law_exchanged", "_law_exchanged", defArgs (top 28), defBody (top 28), defScope (top 28), [], []⟩
def d__law_defined_d : He.DefD := ⟨("_law_defined", none), "_law_defined", "_law_defined", defArgs (top 27), defBody (top 27), defScope (top 27), [], []⟩
def d__law_whole_d : He.DefD := ⟨("_law_whole", none), "_law_whole", "_law_whole", defArgs (top 22), defBody (top 22), defScope (top 22), [], []⟩
def d__law_is_frac_d : He.DefD := ⟨("_law_is_frac", none), "_law_is_frac", "_law_is_frac", defArgs (top 23), defBody (top 23), defScope (top 23), [], []⟩
def d__sum_by_turns_d : He.DefD := ⟨("_sum_by_turns", none), "_sum_by_turns", "_sum_by_turns", defArgs (top 16), defBody (top 16), defScope (top 16), [], []⟩
def d_sign_of_d : He.DefD := ⟨("sign_of", none), "sign_of", "sign_of", defArgs (top 13), defBody (top 13), defScope (top 13), [], []⟩
def d_Frac_init_d : He.DefD := ⟨("Frac", some "__init__"), "__init__", "Frac.__init__", defArgs (inClass (top 14) 0), defBody (inClass (top 14) 0), defScope (inClass (top 14) 0), [.int 1], []⟩
def d_teeth_d : He.DefD := ⟨("teeth", none), "teeth", "teeth", defArgs (top 17), defBody (top 17), defScope (top 17), [], []⟩
def d__law_right_d : He.DefD := ⟨("_law_right", none), "_law_right", "_law_right", defArgs (top 29), defBody (top 29), defScope (top 29), [], []⟩
def d__law_both_d : He.DefD := ⟨("_law_both", none), "_law_both", "_law_both", defArgs (top 30), defBody (top 30), defScope (top 30), [], []⟩
def d__law_pair_d : He.DefD := ⟨("_law_pair", none), "_law_pair", "_law_pair", defArgs (top 31), defBody (top 31), defScope (top 31), [], []⟩
def d__law_refused_d : He.DefD := ⟨("_law_refused", none), "_law_refused", "_law_refused", defArgs (top 24), defBody (top 24), defScope (top 24), [], []⟩
def d_law_d : He.DefD := ⟨("law", none), "law", "law", defArgs (top 32), defBody (top 32), defScope (top 32), [], []⟩
def d_OutOfBounds_init_d : He.DefD := ⟨("OutOfBounds", some "__init__"), "__init__", "OutOfBounds.__init__", defArgs (inClass (top 5) 0), defBody (inClass (top 5) 0), defScope (inClass (top 5) 0), [], []⟩
def fn : List DD := [⟨d__law_mixed_d, []⟩, ⟨d__law_pool_d, []⟩, ⟨d__law_draw_d, []⟩, ⟨d__law_gcd_d, []⟩, ⟨d__law_lowest_d, []⟩, ⟨d__law_exchanged_d, []⟩, ⟨d__law_defined_d, []⟩, ⟨d__law_whole_d, []⟩, ⟨d__law_is_frac_d, []⟩, ⟨d__sum_by_turns_d, []⟩, ⟨d_sign_of_d, []⟩, ⟨d_Frac_init_d, []⟩, ⟨d_teeth_d, []⟩, ⟨d__law_right_d, []⟩, ⟨d__law_both_d, []⟩, ⟨d__law_pair_d, []⟩, ⟨d__law_refused_d, []⟩, ⟨d_law_d, []⟩, ⟨d_OutOfBounds_init_d, ["__class__"]⟩]
def fx : List Fx := [xFree "int",
 xDef d__law_mixed_d,
 xGlo "_law_mixed",
 xFree "range",
 xFree "len",
 xFree "min",
 xDef d__law_pool_d,
 xDef d__law_draw_d,
 xFree "abs",
 xDef d__law_gcd_d,
 xGlo "_law_gcd",
 xDef d__law_lowest_d,
 xGlo "_law_lowest",
 xDef d__law_exchanged_d,
 xDef d__law_defined_d,
 xKit (.own "Frac") (.ty "bool") false,
 xIs "Frac",
 xKit (.ty "tuple") (.ty "bool") false,
 xKit (.ty "list") (.ty "bool") false,
 xKit (.ty "NoneType") (.ty "bool") false,
 xKit (.ty "str") (.ty "bool") false,
 xKit (.ty "bool") (.ty "bool") true,
 xKit (.ty "int") (.ty "bool") false,
 xFree "isinstance",
 xFree "bool",
 xKit (.own "Frac") (.ty "int") false,
 xKit (.ty "tuple") (.ty "int") false,
 xKit (.ty "list") (.ty "int") false,
 xKit (.ty "NoneType") (.ty "int") false,
 xKit (.ty "str") (.ty "int") false,
 xKit (.ty "bool") (.ty "int") true,
 xKit (.ty "int") (.ty "int") true,
 xDef d__law_whole_d,
 xCls "Frac",
 xNoat "Frac" "bottom",
 xNoat "Frac" "top",
 xGlo "_law_whole",
 xKit (.own "Frac") (.own "Frac") true,
 xKit (.ty "tuple") (.own "Frac") false,
 xKit (.ty "list") (.own "Frac") false,
 xKit (.ty "NoneType") (.own "Frac") false,
 xKit (.ty "str") (.own "Frac") false,
 xKit (.ty "bool") (.own "Frac") false,
 xKit (.ty "int") (.own "Frac") false,
 xGlo "Frac",
 xDef d__law_is_frac_d,
 xBlt "gcd" "math.gcd",
 xDef d__sum_by_turns_d,
 xDef d_sign_of_d,
 xGlo "sign_of",
 xGlo "ZeroBottom",
 xExc "ZeroBottom",
 xDef d_Frac_init_d,
 xMkr "Frac",
 xGlo "_sum_by_turns",
 xGlo "OutOfBounds",
 xDef d_teeth_d,
 xGlo "teeth",
 xGlo "_law_is_frac",
 xGlo "_law_defined",
 xGlo "_law_exchanged",
 xDef d__law_right_d,
 xDef d__law_both_d,
 xGlo "_law_both",
 xGlo "_law_right",
 xDef d__law_pair_d,
 xXf "OutOfBounds" "given",
 xExI "OutOfBounds",
 xKit (.own "OutOfBounds") (.own "OutOfBounds") true,
 xExI "ZeroBottom",
 xKit (.own "ZeroBottom") (.own "OutOfBounds") false,
 xKit (.own "OutOfBounds") (.ty "ValueError") true,
 xKit (.own "ZeroBottom") (.ty "ValueError") true,
 xFree "ValueError",
 xKitA (.own "OutOfBounds") [.own "NotProper", .own "TooLong", .own "ZeroBottom"] false,
 xKitA (.own "ZeroBottom") [.own "NotProper", .own "TooLong", .own "ZeroBottom"] true,
 xGlo "TooLong",
 xGlo "NotProper",
 xExmB "OutOfBounds" (.own "TurnError") true,
 xExmB "ZeroBottom" (.own "TurnError") true,
 xGlo "TurnError",
 xDef d__law_refused_d,
 xGlo "_law_refused",
 xGlo "_law_draw",
 xGlo "_law_pair",
 xGlo "_law_pool",
 xDef d_law_d,
 xFree "super",
 xIni pw.main.file "OutOfBounds" "given",
 xGlo "law"]
def names : List PySem.Str := ["_wall", "TurnError", "ZeroBottom", "OutOfBounds", "BadNumber", "TooLong", "NotProper", "MOST_DIGITS", "MOST_EXPONENT", "read_number", "sign_of", "Frac", "_sum_by_turns", "teeth", "_law_mixed", "_law_pool", "_law_draw", "_law_whole", "_law_is_frac", "_law_refused", "_law_gcd", "_law_lowest", "_law_defined", "_law_exchanged", "_law_right", "_law_both", "_law_pair"]
abbrev R : PySem.W.OpenRow := PySem.W.OpenLaw.row PySem.Challenge.rw_goodturns_k70_teeth_by_definition
abbrev hk : PySem.W.Hook := hookP 6 fx fn
def ob (s : PySem.W.SharedT) : OB := obsPG 6 fx fn (HandSHeadRun.getT s)
theorem ob_eq (s : PySem.W.SharedT) : ob s = hk.obs s.abs := obsPG_eq (HandSHeadRun.getT_eq s)
theorem run (w : World) : HandSHeadRun.RunEqI R (PySem.W.view R.prog [0, 32]) hk ob 4000 names w := by
  unfold HandSHeadRun.RunEqI
  kernel_rfl
def clsA (K : PySem.W.Frag) : Nat → Addr
  | 0 => ga K "TurnError"
  | 1 => ga K "ZeroBottom"
  | 2 => ga K "OutOfBounds"
  | 3 => ga K "BadNumber"
  | 4 => ga K "TooLong"
  | 5 => ga K "NotProper"
  | 6 => ga K "Frac"
  | _ => 0
def fldA : Nat → List Str
  | 2 => ["given"]
  | 3 => ["given"]
  | 4 => ["most"]
  | 6 => ["top", "bottom"]
  | _ => []
abbrev gam (K : PySem.W.Frag) : Gam := ⟨K, clsA K, fldA⟩
theorem in_OutOfBounds {w : World} {K : PySem.W.Frag} {mg : Str → Option Value} (F : FX fx fn K mg) : InitF rw.prog w K mg (ga K "OutOfBounds") (He.fAd K ("OutOfBounds", some "__init__")) "given" := by
  have h := F.ini 88 18 87 (P := rw.prog) (w := w) (x := "OutOfBounds") (f := "given") (d := d_OutOfBounds_init_d) (hev := fun _ => rfl) (htop := by kernel_rfl) (hpar := ⟨_, rfl, rfl⟩) (hb := fun _ _ _ _ _ _ _ us hl => match us, hl with | [_, _], _ => rfl)
  exact h
theorem s__law_mixed : FnScope ["cell", "k", "first", "second", "third"] ["cell", "k"] (defScope (top 19)) := ⟨rfl, rfl, rfl, by decide +kernel, rfl, by decide +kernel, by decide +kernel⟩
noncomputable def c__law_mixed : XS := (sSet 2 (bin (bin (bin (bin (onA (aC (eV 0) (aN)) kInt) (eC (.int 48271)) (gMul)) (bin (eV 1) (eC (.int 69621)) (gMul)) (gAdd)) (eC (.int 1013904223)) (gAdd)) (eC (.int 2147483647)) (gII cMod))).andThen ((sSet 3 (bin (bin (bin (bin (eV 2) (eV 2) (gMul)) (bin (eV 1) (eC (.int 16807)) (gMul)) (gAdd)) (eC (.int 7)) (gAdd)) (eC (.int 2147483629)) (gII cMod))).andThen ((sSet 4 (bin (bin (bin (bin (eV 3) (eV 3) (gMul)) (bin (eV 2) (eC (.int 31)) (gMul)) (gAdd)) (eC (.int 5)) (gAdd)) (eC (.int 2147483587)) (gII cMod))).andThen (sRet (bin (bin (bin (bin (eV 2) (eC (.int 2147483629)) (gMul)) (eV 3) (gAdd)) (eC (.int 2147483587)) (gMul)) (eV 4) (gAdd)))))
noncomputable def f__law_mixed : FT := runF 5 c__law_mixed
theorem d__law_mixed {w : World} {K : PySem.W.Frag} {mg : Str → Option Value} {base : Heap} (F : FX fx fn K mg) : FnG rw.prog w K mg base (gam K) 1 2 (He.fAd K ("_law_mixed", none)) f__law_mixed [] := by
  obtain ⟨fd, D⟩ := F.fd 0 1 (d := d__law_mixed_d)
  refine ⟨fd, ["cell", "k"], ["cell", "k", "first", "second", "third"], _, _, fnok D s__law_mixed (fun cdv A outer s H E hr => ?_), D.bindsN (fun _ _ _ _ _ _ us hl => match us, hl with | [_, _], _ => rfl), .nil, fun _ => trivial, rfl, by decide, D.kp⟩
  have hu := hr.units
  have sc := s__law_mixed
  exact
    dss_cons (ds_set (i := 2) sc.nd (de_bin op_modN (o_mod) (de_bin op_addA (o_add rfl) (de_bin op_addA (o_add rfl) (de_bin op_mulA (o_mul) (de_callT call_int1 (o_int) (F.free 0) PD.boot_int (da_cons (de_v 0) (da_nil))) (de_int)) (de_bin op_mulA (o_mul) (de_v 1) (de_int))) (de_int)) (de_int)))
     (dss_cons (ds_set (i := 3) sc.nd (de_bin op_modN (o_mod) (de_bin op_addA (o_add rfl) (de_bin op_addA (o_add rfl) (de_bin op_mulA (o_mul) (de_v 2) (de_v 2)) (de_bin op_mulA (o_mul) (de_v 1) (de_int))) (de_int)) (de_int)))
     (dss_cons (ds_set (i := 4) sc.nd (de_bin op_modN (o_mod) (de_bin op_addA (o_add rfl) (de_bin op_addA (o_add rfl) (de_bin op_mulA (o_mul) (de_v 3) (de_v 3)) (de_bin op_mulA (o_mul) (de_v 2) (de_int))) (de_int)) (de_int)))
     (dss_one (ds_ret (de_bin op_addA (o_add rfl) (de_bin op_mulA (o_mul) (de_bin op_addA (o_add rfl) (de_bin op_mulA (o_mul) (de_v 2) (de_int)) (de_v 3)) (de_int)) (de_v 4))))))
theorem s__law_pool : FnScope ["script", "pool", "seed", "k", "cell"] ["script"] (defScope (top 20)) := ⟨rfl, rfl, rfl, by decide +kernel, rfl, by decide +kernel, by decide +kernel⟩
noncomputable def c__law_pool : XS := (sSet 1 (onA (aN) kLst)).andThen ((sSet 2 (eC (.int 0))).andThen ((sForR (aC (onA (aC (onA (aC (eV 0) (aN)) kLen) (aC (eC (.int 63)) (aN))) kMin2) (aN)) (gN 3) ((sSet 4 (onA (aC (bin (eV 0) (eV 3) gIx) (aN)) kInt)).andThen ((sSet 2 (bin (bin (bin (eV 2) (eC (.int 7)) (gMul)) (eV 4) (gAdd)) (eC (.int 2147483647)) (gII cMod))).andThen (sIf (tCmp (bin (eV 4) (bin (eC (.int 10)) (eC (.int 18)) (gII cPow)) (gII cGe))) (sExpr (eMut 1 (aC (bin (eV 4) (bin (bin (bin (eC (.int 10)) (eC (.int 60)) (gII cPow)) (bin (eC (.int 10)) (eC (.int 60)) (gII cPow)) (gMul)) (bin (eC (.int 10)) (eC (.int 60)) (gII cPow)) (gMul)) (gII cMod)) (aN)) mAppend)) (sExpr (eMut 1 (aC (eFz (onA (aD (aC (eV 4) (aC (eV 3) (aN))) []) (callK 2 f__law_mixed))) (aN)) mAppend)))))).andThen ((sForR (aC (eC (.int 4)) (aN)) (gN 3) (sExpr (eMut 1 (aC (eFz (onA (aD (aC (eV 2) (aC (bin (eC (.int 100)) (eV 3) (gAdd)) (aN))) []) (callK 2 f__law_mixed))) (aN)) mAppend))).andThen (sRetM (eV 1)))))
noncomputable def f__law_pool : FT := runF 5 c__law_pool
theorem d__law_pool {w : World} {K : PySem.W.Frag} {mg : Str → Option Value} {base : Heap} (F : FX fx fn K mg) : FnG rw.prog w K mg base (gam K) 2 1 (He.fAd K ("_law_pool", none)) f__law_pool [] := by
  obtain ⟨fd, D⟩ := F.fd 1 6 (d := d__law_pool_d)
  refine ⟨fd, ["script"], ["script", "pool", "seed", "k", "cell"], _, _, fnok D s__law_pool (fun cdv A outer s H E hr => ?_), D.bindsN (fun _ _ _ _ _ _ us hl => match us, hl with | [_], _ => rfl), .nil, fun _ => trivial, rfl, by decide, D.kp⟩
  have hu := hr.units
  have sc := s__law_pool
  exact
    dss_cons (ds_set (i := 1) sc.nd (de_lst (da_nil)))
     (dss_cons (ds_set (i := 2) sc.nd (de_int))
     (dss_cons (ds_forR (passes_of rfl) rfl rfl (F.free 3) (da_cons (de_callB (call_min2 rfl) o_min2 (F.free 5) PD.boot_min (da_cons (de_callB call_len_seq (o_len rfl) (F.free 4) PD.boot_len (da_cons (de_v 0) (da_nil))) (da_cons (de_int) (da_nil)))) (da_nil)) (dg_name (i := 3) sc.nd)
     (dss_cons (ds_set (i := 4) sc.nd (de_callT call_int1 (o_int) (F.free 0) PD.boot_int (da_cons (de_ix rfl (de_v 0) (de_v 3)) (da_nil))))
     (dss_cons (ds_set (i := 2) sc.nd (de_bin op_modN (o_mod) (de_bin op_addA (o_add rfl) (de_bin op_mulA (o_mul) (de_v 2) (de_int)) (de_v 4)) (de_int)))
     (dss_one (ds_if (dt_cmp op_ge (o_ge) (de_v 4) (de_bin op_powA (o_pow) (de_int) (de_int)))
     (dss_one (ds_expr (de_mut (i := 1) PySem.F.slot_list_append PySem.F.type_list_append mt_append m_append (da_cons (de_bin op_modN (o_mod) (de_v 4) (de_bin op_mulA (o_mul) (de_bin op_mulA (o_mul) (de_bin op_powA (o_pow) (de_int) (de_int)) (de_bin op_powA (o_pow) (de_int) (de_int))) (de_bin op_powA (o_pow) (de_int) (de_int)))) (da_nil)))))
     (dss_one (ds_expr (de_mut (i := 1) PySem.F.slot_list_append PySem.F.type_list_append mt_append m_append (da_cons (de_fz (de_call (d__law_mixed F) (hr.mono (by decide)) (F.glo 2) (L2N.takes_of rfl rfl rfl rfl) (da_cons (de_v 4) (da_cons (de_v 3) (da_nil))))) (da_nil))))))))))
     (dss_cons (ds_forR (passes_of rfl) rfl rfl (F.free 3) (da_cons (de_int) (da_nil)) (dg_name (i := 3) sc.nd)
     (dss_one (ds_expr (de_mut (i := 1) PySem.F.slot_list_append PySem.F.type_list_append mt_append m_append (da_cons (de_fz (de_call (d__law_mixed F) (hr.mono (by decide)) (F.glo 2) (L2N.takes_of rfl rfl rfl rfl) (da_cons (de_v 2) (da_cons (de_bin op_addA (o_add rfl) (de_int) (de_v 3)) (da_nil))))) (da_nil))))))
     (dss_one (ds_retM (de_v 1))))))
theorem s__law_draw : FnScope ["pool", "size", "digit"] ["pool", "size"] (defScope (top 21)) := ⟨rfl, rfl, rfl, by decide +kernel, rfl, by decide +kernel, by decide +kernel⟩
noncomputable def c__law_draw : XS := (sIf (tAnd (tCmp (bin (bin (eV 0) (eC (.int 0)) gIx) (eC (.int 0)) (gEq))) (tCmp (bin (onA (aC (eV 0) (aN)) kLen) (eC (.int 1)) (gII cGt)))) (sExpr (eMut 0 (aC (eC (.int 0)) (aN)) mPopAt)) (sNx)).andThen ((sSet 2 (bin (onA (aC (bin (eV 0) (eC (.int 0)) gIx) (aN)) kInt) (eV 1) (gII cMod))).andThen ((sAsg (bin (bin (eV 0) (eC (.int 0)) gIx) (eV 1) (gII cDiv)) (gSet 0 (eC (.int 0)))).andThen (sRetM (eV 2))))
noncomputable def f__law_draw : FT := runF 3 c__law_draw
theorem d__law_draw {w : World} {K : PySem.W.Frag} {mg : Str → Option Value} {base : Heap} (F : FX fx fn K mg) : FnG rw.prog w K mg base (gam K) 1 2 (He.fAd K ("_law_draw", none)) f__law_draw [] := by
  obtain ⟨fd, D⟩ := F.fd 2 7 (d := d__law_draw_d)
  refine ⟨fd, ["pool", "size"], ["pool", "size", "digit"], _, _, fnok D s__law_draw (fun cdv A outer s H E hr => ?_), D.bindsN (fun _ _ _ _ _ _ us hl => match us, hl with | [_, _], _ => rfl), .nil, fun _ => trivial, rfl, by decide, D.kp⟩
  have hu := hr.units
  have sc := s__law_draw
  exact
    dss_cons (ds_if ((dw_and (dt_cmp (op_eqA (by exact hu)) (o_eq rfl) (de_ix rfl (de_v 0) (de_int)) (de_int)) (dw_and1 (dt_cmp op_gt (o_gt) (de_callB call_len_seq (o_len rfl) (F.free 4) PD.boot_len (da_cons (de_v 0) (da_nil))) (de_int)))).pt)
     (dss_one (ds_expr (de_mut (i := 0) PySem.F.slot_list_pop PySem.F.type_list_pop mt_popAt m_popAt (da_cons (de_int) (da_nil)))))
     (dss_nil))
     (dss_cons (ds_set (i := 2) sc.nd (de_bin op_modN (o_mod) (de_callT call_int1 (o_int) (F.free 0) PD.boot_int (da_cons (de_ix rfl (de_v 0) (de_int)) (da_nil))) (de_v 1)))
     (dss_cons (ds_asg (de_bin op_divA (o_div) (de_ix rfl (de_v 0) (de_int)) (de_v 1)) (dg_set (i := 0) (W := (fun c d _ H1 => E c d H1)) (de_int)))
     (dss_one (ds_retM (de_v 2)))))
theorem s__law_gcd : FnScope ["a", "b"] ["a", "b"] (defScope (top 25)) := ⟨rfl, rfl, rfl, by decide +kernel, rfl, by decide +kernel, by decide +kernel⟩
noncomputable def c__law_gcd : XS := (sSet 0 (onA (aC (eV 0) (aN)) kAbs)).andThen ((sSet 1 (onA (aC (eV 1) (aN)) kAbs)).andThen ((sWh (tCmp (bin (eV 1) (eC (.int 0)) (gII cGt))) (sPar 0 1 (aC (eFz (eV 1)) (aC (bin (eV 0) (eV 1) (gII cMod)) (aN))))).andThen (sRetM (eV 0))))
noncomputable def f__law_gcd : FT := runF 2 c__law_gcd
theorem d__law_gcd {w : World} {K : PySem.W.Frag} {mg : Str → Option Value} {base : Heap} (F : FX fx fn K mg) : FnG rw.prog w K mg base (gam K) 1 2 (He.fAd K ("_law_gcd", none)) f__law_gcd [] := by
  obtain ⟨fd, D⟩ := F.fd 3 9 (d := d__law_gcd_d)
  refine ⟨fd, ["a", "b"], ["a", "b"], _, _, fnok D s__law_gcd (fun cdv A outer s H E hr => ?_), D.bindsN (fun _ _ _ _ _ _ us hl => match us, hl with | [_, _], _ => rfl), .nil, fun _ => trivial, rfl, by decide, D.kp⟩
  have hu := hr.units
  have sc := s__law_gcd
  exact
    dss_cons (ds_set (i := 0) sc.nd (de_callB call_abs (o_abs) (F.free 8) PD.boot_abs (da_cons (de_v 0) (da_nil))))
     (dss_cons (ds_set (i := 1) sc.nd (de_callB call_abs (o_abs) (F.free 8) PD.boot_abs (da_cons (de_v 1) (da_nil))))
     (dss_cons (ds_while (passes_of rfl) (dt_cmp op_gt (o_gt) (de_v 1) (de_int))
     (dss_one (ds_par (i := 0) (j := 1) rfl sc.nd (da_cons (de_fz (de_v 1)) (da_cons (de_bin op_modN (o_mod) (de_v 0) (de_v 1)) (da_nil))))))
     (dss_one (ds_retM (de_v 0)))))
theorem s__law_lowest : FnScope ["p", "q", "g"] ["p", "q"] (defScope (top 26)) := ⟨rfl, rfl, rfl, by decide +kernel, rfl, by decide +kernel, by decide +kernel⟩
noncomputable def c__law_lowest : XS := (sSet 2 (onA (aD (aC (eV 0) (aC (eV 1) (aN))) []) (callK 2 f__law_gcd))).andThen (sRet (onA (aC (bin (eV 0) (eV 2) (gII cDiv)) (aC (bin (eV 1) (eV 2) (gII cDiv)) (aN))) kTup))
noncomputable def f__law_lowest : FT := runF 3 c__law_lowest
theorem d__law_lowest {w : World} {K : PySem.W.Frag} {mg : Str → Option Value} {base : Heap} (F : FX fx fn K mg) : FnG rw.prog w K mg base (gam K) 2 2 (He.fAd K ("_law_lowest", none)) f__law_lowest [] := by
  obtain ⟨fd, D⟩ := F.fd 4 11 (d := d__law_lowest_d)
  refine ⟨fd, ["p", "q"], ["p", "q", "g"], _, _, fnok D s__law_lowest (fun cdv A outer s H E hr => ?_), D.bindsN (fun _ _ _ _ _ _ us hl => match us, hl with | [_, _], _ => rfl), .nil, fun _ => trivial, rfl, by decide, D.kp⟩
  have hu := hr.units
  have sc := s__law_lowest
  exact
    dss_cons (ds_set (i := 2) sc.nd (de_call (d__law_gcd F) (hr.mono (by decide)) (F.glo 10) (L2N.takes_of rfl rfl rfl rfl) (da_cons (de_v 0) (da_cons (de_v 1) (da_nil)))))
     (dss_one (ds_ret (de_tup (da_cons (de_bin op_divA (o_div) (de_v 0) (de_v 2)) (da_cons (de_bin op_divA (o_div) (de_v 1) (de_v 2)) (da_nil))))))
theorem s__law_exchanged : FnScope ["h", "k", "g", "b", "a", "bottom", "pairs", "told"] ["h", "k"] (defScope (top 28)) := ⟨rfl, rfl, rfl, by decide +kernel, rfl, by decide +kernel, by decide +kernel⟩
noncomputable def c__law_exchanged : XS := (sSet 2 (onA (aD (aC (eV 0) (aC (eV 1) (aN))) []) (callK 2 f__law_gcd))).andThen ((sSet 3 (bin (eV 1) (eV 2) (gII cDiv))).andThen ((sSet 4 (bin (bin (eV 0) (eV 2) (gII cDiv)) (eV 3) (gII cMod))).andThen ((sSet 5 (bin (eC (.int 12)) (eV 3) (gMul))).andThen ((sSet 6 (onA (aN) kLst)).andThen ((sWh (tCmp (bin (eV 3) (eC (.int 1)) (gII cGt))) ((sExpr (eMut 6 (aC (onA (aC (eFz (eV 4)) (aC (eFz (eV 3)) (aN))) kTup) (aN)) mAppend)).andThen (sPar 4 3 (aC (bin (eV 3) (eV 4) (gII cMod)) (aC (eFz (eV 4)) (aN)))))).andThen ((sSet 7 (eC (.int 0))).andThen ((sForL (un (eV 6) gRev) (gU [gN 4, gN 3]) (sSet 7 (bin (bin (bin (bin (bin (bin (eV 4) (eV 4) (gMul)) (bin (eV 3) (eV 3) (gMul)) (gAdd)) (eC (.int 1)) (gAdd)) (bin (bin (eC (.int 3)) (eV 4) (gMul)) (eV 3) (gMul)) (gII cSub)) (bin (eV 3) (eV 7) (gMul)) (gII cSub)) (eV 4) (gII cDiv)))).andThen (sRet (onA (aD (aC (eV 7) (aC (eV 5) (aN))) []) (callK 2 f__law_lowest))))))))))
noncomputable def f__law_exchanged : FT := runF 8 c__law_exchanged
theorem d__law_exchanged {w : World} {K : PySem.W.Frag} {mg : Str → Option Value} {base : Heap} (F : FX fx fn K mg) : FnG rw.prog w K mg base (gam K) 3 2 (He.fAd K ("_law_exchanged", none)) f__law_exchanged [] := by
  obtain ⟨fd, D⟩ := F.fd 5 13 (d := d__law_exchanged_d)
  refine ⟨fd, ["h", "k"], ["h", "k", "g", "b", "a", "bottom", "pairs", "told"], _, _, fnok D s__law_exchanged (fun cdv A outer s H E hr => ?_), D.bindsN (fun _ _ _ _ _ _ us hl => match us, hl with | [_, _], _ => rfl), .nil, fun _ => trivial, rfl, by decide, D.kp⟩
  have hu := hr.units
  have sc := s__law_exchanged
  exact
    dss_cons (ds_set (i := 2) sc.nd (de_call (d__law_gcd F) (hr.mono (by decide)) (F.glo 10) (L2N.takes_of rfl rfl rfl rfl) (da_cons (de_v 0) (da_cons (de_v 1) (da_nil)))))
     (dss_cons (ds_set (i := 3) sc.nd (de_bin op_divA (o_div) (de_v 1) (de_v 2)))
     (dss_cons (ds_set (i := 4) sc.nd (de_bin op_modN (o_mod) (de_bin op_divA (o_div) (de_v 0) (de_v 2)) (de_v 3)))
     (dss_cons (ds_set (i := 5) sc.nd (de_bin op_mulA (o_mul) (de_int) (de_v 3)))
     (dss_cons (ds_set (i := 6) sc.nd (de_lst (da_nil)))
     (dss_cons (ds_while (passes_of rfl) (dt_cmp op_gt (o_gt) (de_v 3) (de_int))
     (dss_cons (ds_expr (de_mut (i := 6) PySem.F.slot_list_append PySem.F.type_list_append mt_append m_append (da_cons (de_tup (da_cons (de_fz (de_v 4)) (da_cons (de_fz (de_v 3)) (da_nil)))) (da_nil))))
     (dss_one (ds_par (i := 4) (j := 3) rfl sc.nd (da_cons (de_bin op_modN (o_mod) (de_v 3) (de_v 4)) (da_cons (de_fz (de_v 4)) (da_nil)))))))
     (dss_cons (ds_set (i := 7) sc.nd (de_int))
     (dss_cons (ds_forL rfl (passes_of rfl) rfl (de_rev rfl (de_v 6)) (dg_tup rfl rfl (dgs_cons (pgs_cons (dg_name (i := 4) sc.nd) (dgs_cons (pgs_cons (dg_name (i := 3) sc.nd) (dgs_nil))))))
     (dss_one (ds_set (i := 7) sc.nd (de_bin op_divA (o_div) (de_bin op_sub (o_sub) (de_bin op_sub (o_sub) (de_bin op_addA (o_add rfl) (de_bin op_addA (o_add rfl) (de_bin op_mulA (o_mul) (de_v 4) (de_v 4)) (de_bin op_mulA (o_mul) (de_v 3) (de_v 3))) (de_int)) (de_bin op_mulA (o_mul) (de_bin op_mulA (o_mul) (de_int) (de_v 4)) (de_v 3))) (de_bin op_mulA (o_mul) (de_v 3) (de_v 7))) (de_v 4)))))
     (dss_one (ds_ret (de_call (d__law_lowest F) (hr.mono (by decide)) (F.glo 12) (L2N.takes_of rfl rfl rfl rfl) (da_cons (de_v 7) (da_cons (de_v 5) (da_nil)))))))))))))
theorem s__law_defined : FnScope ["h", "k", "total", "i", "rest"] ["h", "k"] (defScope (top 27)) := ⟨rfl, rfl, rfl, by decide +kernel, rfl, by decide +kernel, by decide +kernel⟩
noncomputable def c__law_defined : XS := (sSet 2 (eC (.int 0))).andThen ((sForR2 (aC (eC (.int 1)) (aC (eV 1) (aN))) (gN 3) ((sSet 4 (bin (bin (eV 0) (eV 3) (gMul)) (eV 1) (gII cMod))).andThen (sIf (tCmp (bin (eV 4) (eC (.int 0)) (gNe))) (sSet 2 (bin (eV 2) (bin (bin (bin (eC (.int 2)) (eV 3) (gMul)) (eV 1) (gII cSub)) (bin (bin (eC (.int 2)) (eV 4) (gMul)) (eV 1) (gII cSub)) (gMul)) (gAdd))) (sNx)))).andThen (sRet (onA (aD (aC (eV 2) (aC (bin (bin (eC (.int 4)) (eV 1) (gMul)) (eV 1) (gMul)) (aN))) []) (callK 2 f__law_lowest))))
noncomputable def f__law_defined : FT := runF 5 c__law_defined
theorem d__law_defined {w : World} {K : PySem.W.Frag} {mg : Str → Option Value} {base : Heap} (F : FX fx fn K mg) : FnG rw.prog w K mg base (gam K) 3 2 (He.fAd K ("_law_defined", none)) f__law_defined [] := by
  obtain ⟨fd, D⟩ := F.fd 6 14 (d := d__law_defined_d)
  refine ⟨fd, ["h", "k"], ["h", "k", "total", "i", "rest"], _, _, fnok D s__law_defined (fun cdv A outer s H E hr => ?_), D.bindsN (fun _ _ _ _ _ _ us hl => match us, hl with | [_, _], _ => rfl), .nil, fun _ => trivial, rfl, by decide, D.kp⟩
  have hu := hr.units
  have sc := s__law_defined
  exact
    dss_cons (ds_set (i := 2) sc.nd (de_int))
     (dss_cons (ds_forR2 (passes_of rfl) rfl rfl (F.free 3) (da_cons (de_int) (da_cons (de_v 1) (da_nil))) (dg_name (i := 3) sc.nd)
     (dss_cons (ds_set (i := 4) sc.nd (de_bin op_modN (o_mod) (de_bin op_mulA (o_mul) (de_v 0) (de_v 3)) (de_v 1)))
     (dss_one (ds_if (dt_cmp (op_neA (by exact hu)) (o_ne rfl) (de_v 4) (de_int))
     (dss_one (ds_set (i := 2) sc.nd (de_bin op_addA (o_add rfl) (de_v 2) (de_bin op_mulA (o_mul) (de_bin op_sub (o_sub) (de_bin op_mulA (o_mul) (de_int) (de_v 3)) (de_v 1)) (de_bin op_sub (o_sub) (de_bin op_mulA (o_mul) (de_int) (de_v 4)) (de_v 1))))))
     (dss_nil)))))
     (dss_one (ds_ret (de_call (d__law_lowest F) (hr.mono (by decide)) (F.glo 12) (L2N.takes_of rfl rfl rfl rfl) (da_cons (de_v 2) (da_cons (de_bin op_mulA (o_mul) (de_bin op_mulA (o_mul) (de_int) (de_v 1)) (de_v 1)) (da_nil)))))))
theorem s__law_whole : FnScope ["x"] ["x"] (defScope (top 22)) := ⟨rfl, rfl, rfl, by decide +kernel, rfl, by decide +kernel, by decide +kernel⟩
noncomputable def c__law_whole : XS := sRet (eAnd (eIsI [(.int, true), (.bl, true), (.str, false), (.non, false), (.lst, false), (.tup, false), (.ins 6, false)] (eV 0)) (eNot (eIsI [(.int, false), (.bl, true), (.str, false), (.non, false), (.lst, false), (.tup, false), (.ins 6, false)] (eV 0))))
noncomputable def f__law_whole : FT := runF 1 c__law_whole
theorem d__law_whole {w : World} {K : PySem.W.Frag} {mg : Str → Option Value} {base : Heap} (F : FX fx fn K mg) : FnG rw.prog w K mg base (gam K) 1 1 (He.fAd K ("_law_whole", none)) f__law_whole [] := by
  obtain ⟨fd, D⟩ := F.fd 7 32 (d := d__law_whole_d)
  refine ⟨fd, ["x"], ["x"], _, _, fnok D s__law_whole (fun cdv A outer s H E hr => ?_), D.bindsN (fun _ _ _ _ _ _ us hl => match us, hl with | [_], _ => rfl), .nil, fun _ => trivial, rfl, by decide, D.kp⟩
  have hu := hr.units
  have sc := s__law_whole
  exact
    dss_one (ds_ret (de_and (de_isi rfl (F.free 23) (de_v 0) (pe_bltn (v := Nm.v K (.ty "int")) (by rfl) (F.free 0) PD.boot_int (by rfl)) (Nm.cv K (.ty "int")) (tab_cons ⟨trivial, F.kit 31 (t := .ty "int") (c := .ty "int") (b := true)⟩ (tab_cons ⟨trivial, F.kit 30 (t := .ty "bool") (c := .ty "int") (b := true)⟩ (tab_cons ⟨trivial, F.kit 29 (t := .ty "str") (c := .ty "int") (b := false)⟩ (tab_cons ⟨trivial, F.kit 28 (t := .ty "NoneType") (c := .ty "int") (b := false)⟩ (tab_cons ⟨trivial, F.kit 27 (t := .ty "list") (c := .ty "int") (b := false)⟩ (tab_cons ⟨trivial, F.kit 26 (t := .ty "tuple") (c := .ty "int") (b := false)⟩ (tab_cons ⟨F.is 16 (x := "Frac"), F.kit 25 (t := .own "Frac") (c := .ty "int") (b := false)⟩ (tab_nil))))))))) (de_one (de_not (de_isi rfl (F.free 23) (de_v 0) (pe_bltn (v := Nm.v K (.ty "bool")) (by rfl) (F.free 24) PD.boot_bool (by rfl)) (Nm.cv K (.ty "bool")) (tab_cons ⟨trivial, F.kit 22 (t := .ty "int") (c := .ty "bool") (b := false)⟩ (tab_cons ⟨trivial, F.kit 21 (t := .ty "bool") (c := .ty "bool") (b := true)⟩ (tab_cons ⟨trivial, F.kit 20 (t := .ty "str") (c := .ty "bool") (b := false)⟩ (tab_cons ⟨trivial, F.kit 19 (t := .ty "NoneType") (c := .ty "bool") (b := false)⟩ (tab_cons ⟨trivial, F.kit 18 (t := .ty "list") (c := .ty "bool") (b := false)⟩ (tab_cons ⟨trivial, F.kit 17 (t := .ty "tuple") (c := .ty "bool") (b := false)⟩ (tab_cons ⟨F.is 16 (x := "Frac"), F.kit 15 (t := .own "Frac") (c := .ty "bool") (b := false)⟩ (tab_nil)))))))))))))
theorem dh__law_whole {w : World} {K : PySem.W.Frag} {mg : Str → Option Value} {base : Heap} (F : FX fx fn K mg) : FnGH rw.prog w K mg base (gam K) 1 1 (He.fAd K ("_law_whole", none)) f__law_whole := by
  obtain ⟨fd, D⟩ := F.fd 7 32 (d := d__law_whole_d)
  refine ⟨fd, ["x"], ["x"], fnokH D s__law_whole (fun cdv A outer s H p hot hr => ?_), D.bindsN (fun _ _ _ _ _ _ us hl => match us, hl with | [_], _ => rfl), rfl, by decide, D.kp⟩
  have hu : A.units + 3 + 64 < cLine := by have z : A.units + 3 + 16 * 0 + 200 < cLine := hr.un; omega
  have sc := s__law_whole
  exact
    dss_one (ds_ret (de_and (de_isi rfl (F.free 23) (de_v 0) (pe_bltn (v := Nm.v K (.ty "int")) (by rfl) (F.free 0) PD.boot_int (by rfl)) (Nm.cv K (.ty "int")) (tab_cons ⟨trivial, F.kit 31 (t := .ty "int") (c := .ty "int") (b := true)⟩ (tab_cons ⟨trivial, F.kit 30 (t := .ty "bool") (c := .ty "int") (b := true)⟩ (tab_cons ⟨trivial, F.kit 29 (t := .ty "str") (c := .ty "int") (b := false)⟩ (tab_cons ⟨trivial, F.kit 28 (t := .ty "NoneType") (c := .ty "int") (b := false)⟩ (tab_cons ⟨trivial, F.kit 27 (t := .ty "list") (c := .ty "int") (b := false)⟩ (tab_cons ⟨trivial, F.kit 26 (t := .ty "tuple") (c := .ty "int") (b := false)⟩ (tab_cons ⟨F.is 16 (x := "Frac"), F.kit 25 (t := .own "Frac") (c := .ty "int") (b := false)⟩ (tab_nil))))))))) (de_one (de_not (de_isi rfl (F.free 23) (de_v 0) (pe_bltn (v := Nm.v K (.ty "bool")) (by rfl) (F.free 24) PD.boot_bool (by rfl)) (Nm.cv K (.ty "bool")) (tab_cons ⟨trivial, F.kit 22 (t := .ty "int") (c := .ty "bool") (b := false)⟩ (tab_cons ⟨trivial, F.kit 21 (t := .ty "bool") (c := .ty "bool") (b := true)⟩ (tab_cons ⟨trivial, F.kit 20 (t := .ty "str") (c := .ty "bool") (b := false)⟩ (tab_cons ⟨trivial, F.kit 19 (t := .ty "NoneType") (c := .ty "bool") (b := false)⟩ (tab_cons ⟨trivial, F.kit 18 (t := .ty "list") (c := .ty "bool") (b := false)⟩ (tab_cons ⟨trivial, F.kit 17 (t := .ty "tuple") (c := .ty "bool") (b := false)⟩ (tab_cons ⟨F.is 16 (x := "Frac"), F.kit 15 (t := .own "Frac") (c := .ty "bool") (b := false)⟩ (tab_nil)))))))))))))
theorem s__law_is_frac : FnScope ["x", "p", "q"] ["x", "p", "q"] (defScope (top 23)) := ⟨rfl, rfl, rfl, by decide +kernel, rfl, by decide +kernel, by decide +kernel⟩
noncomputable def c__law_is_frac : XS := (sIf (tNot (tOf (eIsI [(.int, false), (.bl, false), (.str, false), (.non, false), (.lst, false), (.tup, false), (.ins 6, true)] (eV 0)))) (sRet (eC (.bl false))) (sNx)).andThen ((sIf (tOr (tNot (tOf (onA (aD (aC (eFld [(6, 0)] (eV 0)) (aN)) []) (callK 1 f__law_whole)))) (tNot (tOf (onA (aD (aC (eFld [(6, 1)] (eV 0)) (aN)) []) (callK 1 f__law_whole))))) (sRet (eC (.bl false))) (sNx)).andThen (sRet (eAnd (bin (eFld [(6, 0)] (eV 0)) (eV 1) (gEq)) (bin (eFld [(6, 1)] (eV 0)) (eV 2) (gEq)))))
noncomputable def f__law_is_frac : FT := runF 3 c__law_is_frac
theorem d__law_is_frac {w : World} {K : PySem.W.Frag} {mg : Str → Option Value} {base : Heap} (F : FX fx fn K mg) : FnG rw.prog w K mg base (gam K) 2 3 (He.fAd K ("_law_is_frac", none)) f__law_is_frac [] := by
  obtain ⟨fd, D⟩ := F.fd 8 45 (d := d__law_is_frac_d)
  refine ⟨fd, ["x", "p", "q"], ["x", "p", "q"], _, _, fnok D s__law_is_frac (fun cdv A outer s H E hr => ?_), D.bindsN (fun _ _ _ _ _ _ us hl => match us, hl with | [_, _, _], _ => rfl), .nil, fun _ => trivial, rfl, by decide, D.kp⟩
  have hu := hr.units
  have sc := s__law_is_frac
  exact
    dss_cons (ds_if (dt_not (PD.dt_of rfl (de_isi rfl (F.free 23) (de_v 0) (pe_glob (v := Nm.v K (.own "Frac")) (by rfl) (F.glo 44) (by rfl)) (Nm.cv K (.own "Frac")) (tab_cons ⟨trivial, F.kit 43 (t := .ty "int") (c := .own "Frac") (b := false)⟩ (tab_cons ⟨trivial, F.kit 42 (t := .ty "bool") (c := .own "Frac") (b := false)⟩ (tab_cons ⟨trivial, F.kit 41 (t := .ty "str") (c := .own "Frac") (b := false)⟩ (tab_cons ⟨trivial, F.kit 40 (t := .ty "NoneType") (c := .own "Frac") (b := false)⟩ (tab_cons ⟨trivial, F.kit 39 (t := .ty "list") (c := .own "Frac") (b := false)⟩ (tab_cons ⟨trivial, F.kit 38 (t := .ty "tuple") (c := .own "Frac") (b := false)⟩ (tab_cons ⟨F.is 16 (x := "Frac"), F.kit 37 (t := .own "Frac") (c := .own "Frac") (b := true)⟩ (tab_nil)))))))))))
     (dss_one (ds_ret (de_bl)))
     (dss_nil))
     (dss_cons (ds_if ((dw_or (dt_not (PD.dt_of rfl (de_call (d__law_whole F) (hr.mono (by decide)) (F.glo 36) (L2N.takes_of rfl rfl rfl rfl) (da_cons (de_fld rfl (tab_cons ⟨F.cls 33 (x := "Frac"), F.noat 35 (x := "Frac") (f := "top"), rfl⟩ (tab_nil)) (de_v 0)) (da_nil))))) (dw_or1 (dt_not (PD.dt_of rfl (de_call (d__law_whole F) (hr.mono (by decide)) (F.glo 36) (L2N.takes_of rfl rfl rfl rfl) (da_cons (de_fld rfl (tab_cons ⟨F.cls 33 (x := "Frac"), F.noat 34 (x := "Frac") (f := "bottom"), rfl⟩ (tab_nil)) (de_v 0)) (da_nil))))))).pt)
     (dss_one (ds_ret (de_bl)))
     (dss_nil))
     (dss_one (ds_ret (de_and (de_cmp (op_eqA (by exact hu)) (o_eq rfl) (de_fld rfl (tab_cons ⟨F.cls 33 (x := "Frac"), F.noat 35 (x := "Frac") (f := "top"), rfl⟩ (tab_nil)) (de_v 0)) (de_v 1)) (de_one (de_cmp (op_eqA (by exact hu)) (o_eq rfl) (de_fld rfl (tab_cons ⟨F.cls 33 (x := "Frac"), F.noat 34 (x := "Frac") (f := "bottom"), rfl⟩ (tab_nil)) (de_v 0)) (de_v 2)))))))
theorem s__sum_by_turns : FnScope ["h", "k", "divisor", "bottom", "rest", "total", "sign", "last", "before", "upper", "lower", "turn", "top"] ["h", "k"] (defScope (top 16)) := ⟨rfl, rfl, rfl, by decide +kernel, rfl, by decide +kernel, by decide +kernel⟩
noncomputable def c__sum_by_turns : XS := (sSet 2 (onA (aC (eV 0) (aC (eV 1) (aN))) kGcd)).andThen ((sSet 3 (bin (eV 1) (eV 2) (gII cDiv))).andThen ((sSet 4 (bin (bin (eV 0) (eV 2) (gII cDiv)) (eV 3) (gII cMod))).andThen ((sSet 5 (eC (.int 0))).andThen ((sSet 6 (eC (.int 1))).andThen ((sAsg (onA (aC (eC (.int 1)) (aC (eC (.int 0)) (aN))) kTup) (gU [gN 7, gN 8])).andThen ((sPar 9 10 (aC (eFz (eV 3)) (aC (eFz (eV 4)) (aN)))).andThen ((sWh (tCmp (bin (eV 10) (eC (.int 0)) (gII cGt))) ((sSet 11 (bin (eV 9) (eV 10) (gII cDiv))).andThen ((sAug 5 (bin (eV 6) (eV 11) (gMul)) (gII cAdd)).andThen ((sSet 6 (un (eV 6) gNeg)).andThen ((sPar 7 8 (aC (bin (bin (eV 11) (eV 7) (gMul)) (eV 8) (gAdd)) (aC (eFz (eV 7)) (aN)))).andThen (sPar 9 10 (aC (eFz (eV 10)) (aC (bin (eV 9) (bin (eV 11) (eV 10) (gMul)) (gII cSub)) (aN))))))))).andThen ((sSet 12 (bin (bin (bin (eV 5) (eV 3) (gMul)) (eV 4) (gAdd)) (bin (eV 6) (eV 8) (gMul)) (gII cSub))).andThen ((sIf (tCmp (bin (eV 6) (un (eC (.int 1)) gNeg) (gEq))) (sAug 12 (bin (eC (.int 3)) (eV 3) (gMul)) (gII cSub)) (sNx)).andThen (sRet (onA (aC (eFz (eV 12)) (aC (eFz (eV 3)) (aN))) kTup)))))))))))
noncomputable def f__sum_by_turns : FT := runF 13 c__sum_by_turns
theorem d__sum_by_turns {w : World} {K : PySem.W.Frag} {mg : Str → Option Value} {base : Heap} (F : FX fx fn K mg) : FnG rw.prog w K mg base (gam K) 1 2 (He.fAd K ("_sum_by_turns", none)) f__sum_by_turns [] := by
  obtain ⟨fd, D⟩ := F.fd 9 47 (d := d__sum_by_turns_d)
  refine ⟨fd, ["h", "k"], ["h", "k", "divisor", "bottom", "rest", "total", "sign", "last", "before", "upper", "lower", "turn", "top"], _, _, fnok D s__sum_by_turns (fun cdv A outer s H E hr => ?_), D.bindsN (fun _ _ _ _ _ _ us hl => match us, hl with | [_, _], _ => rfl), .nil, fun _ => trivial, rfl, by decide, D.kp⟩
  have hu := hr.units
  have sc := s__sum_by_turns
  exact
    dss_cons (ds_set (i := 2) sc.nd (de_callG cr_gcd o_gcd (F.blt 46) (da_cons (de_v 0) (da_cons (de_v 1) (da_nil)))))
     (dss_cons (ds_set (i := 3) sc.nd (de_bin op_divA (o_div) (de_v 1) (de_v 2)))
     (dss_cons (ds_set (i := 4) sc.nd (de_bin op_modN (o_mod) (de_bin op_divA (o_div) (de_v 0) (de_v 2)) (de_v 3)))
     (dss_cons (ds_set (i := 5) sc.nd (de_int))
     (dss_cons (ds_set (i := 6) sc.nd (de_int))
     (dss_cons (ds_asg (de_tup (da_cons (de_int) (da_cons (de_int) (da_nil)))) (dg_tup rfl rfl (dgs_cons (pgs_cons (dg_name (i := 7) sc.nd) (dgs_cons (pgs_cons (dg_name (i := 8) sc.nd) (dgs_nil)))))))
     (dss_cons (ds_par (i := 9) (j := 10) rfl sc.nd (da_cons (de_fz (de_v 3)) (da_cons (de_fz (de_v 4)) (da_nil))))
     (dss_cons (ds_while (passes_of rfl) (dt_cmp op_gt (o_gt) (de_v 10) (de_int))
     (dss_cons (ds_set (i := 11) sc.nd (de_bin op_divA (o_div) (de_v 9) (de_v 10)))
     (dss_cons (ds_aug (i := 5) sc.nd iop_add o_addI (de_bin op_mulA (o_mul) (de_v 6) (de_v 11)))
     (dss_cons (ds_set (i := 6) sc.nd (de_un un_neg o_neg (de_v 6)))
     (dss_cons (ds_par (i := 7) (j := 8) rfl sc.nd (da_cons (de_bin op_addA (o_add rfl) (de_bin op_mulA (o_mul) (de_v 11) (de_v 7)) (de_v 8)) (da_cons (de_fz (de_v 7)) (da_nil))))
     (dss_one (ds_par (i := 9) (j := 10) rfl sc.nd (da_cons (de_fz (de_v 10)) (da_cons (de_bin op_sub (o_sub) (de_v 9) (de_bin op_mulA (o_mul) (de_v 11) (de_v 10))) (da_nil))))))))))
     (dss_cons (ds_set (i := 12) sc.nd (de_bin op_sub (o_sub) (de_bin op_addA (o_add rfl) (de_bin op_mulA (o_mul) (de_v 5) (de_v 3)) (de_v 4)) (de_bin op_mulA (o_mul) (de_v 6) (de_v 8))))
     (dss_cons (ds_if (dt_cmp (op_eqA (by exact hu)) (o_eq rfl) (de_v 6) (de_un un_neg o_neg (de_int)))
     (dss_one (ds_aug (i := 12) sc.nd iop_sub o_subI (de_bin op_mulA (o_mul) (de_int) (de_v 3))))
     (dss_nil))
     (dss_one (ds_ret (de_tup (da_cons (de_fz (de_v 12)) (da_cons (de_fz (de_v 3)) (da_nil)))))))))))))))
theorem s_sign_of : FnScope ["number"] ["number"] (defScope (top 13)) := ⟨rfl, rfl, rfl, by decide +kernel, rfl, by decide +kernel, by decide +kernel⟩
noncomputable def c_sign_of : XS := (sIf (tCmp (bin (eV 0) (eC (.int 0)) (gEq))) (sRet (eC (.int 0))) (sNx)).andThen (sRetM (eIf (tCmp (bin (eV 0) (eC (.int 0)) (gII cGt))) (eC (.int 1)) (un (eC (.int 1)) gNeg)))
noncomputable def f_sign_of : FT := runF 1 c_sign_of
theorem d_sign_of {w : World} {K : PySem.W.Frag} {mg : Str → Option Value} {base : Heap} (F : FX fx fn K mg) : FnG rw.prog w K mg base (gam K) 1 1 (He.fAd K ("sign_of", none)) f_sign_of [] := by
  obtain ⟨fd, D⟩ := F.fd 10 48 (d := d_sign_of_d)
  refine ⟨fd, ["number"], ["number"], _, _, fnok D s_sign_of (fun cdv A outer s H E hr => ?_), D.bindsN (fun _ _ _ _ _ _ us hl => match us, hl with | [_], _ => rfl), .nil, fun _ => trivial, rfl, by decide, D.kp⟩
  have hu := hr.units
  have sc := s_sign_of
  exact
    dss_cons (ds_if (dt_cmp (op_eqA (by exact hu)) (o_eq rfl) (de_v 0) (de_int))
     (dss_one (ds_ret (de_int)))
     (dss_nil))
     (dss_one (ds_retM (de_if (dt_cmp op_gt (o_gt) (de_v 0) (de_int)) (de_int) (de_un un_neg o_neg (de_int)))))
theorem s_Frac_init : FnScope ["self", "top", "bottom", "divisor"] ["self", "top", "bottom"] (defScope (inClass (top 14) 0)) := ⟨rfl, rfl, rfl, by decide +kernel, rfl, by decide +kernel, by decide +kernel⟩
noncomputable def c_Frac_init : XS := (sIf (tCmp (bin (eV 2) (eC (.int 0)) (gEq))) (sErr0 1) (sNx)).andThen ((sSet 3 (bin (onA (aC (eV 1) (aC (eV 2) (aN))) kGcd) (onA (aD (aC (eV 2) (aN)) []) (callK 1 f_sign_of)) (gMul))).andThen ((sFldS [(6, 0)] 0 (bin (eV 1) (eV 3) (gII cDiv))).andThen (sFldS [(6, 1)] 0 (bin (eV 2) (eV 3) (gII cDiv)))))
noncomputable def f_Frac_init : FT := runF 4 c_Frac_init
theorem d_Frac_init_2 {w : World} {K : PySem.W.Frag} {mg : Str → Option Value} {base : Heap} (F : FX fx fn K mg) : FnG rw.prog w K mg base (gam K) 3 3 (He.fAd K ("Frac", some "__init__")) f_Frac_init [] := by
  obtain ⟨fd, D⟩ := F.fd 11 52 (d := d_Frac_init_d)
  obtain ⟨dV, hva, hbd⟩ := D.binds1 (ps := ["self", "top", "bottom"]) 3 1 (List.cons_ne_nil _ _) rfl (fun T kV doc pm an cdv ct us its hl hl2 => match us, its, hl, hl2 with | [_, _, _], [_], _, _ => ⟨_, rfl, rfl⟩)
  refine ⟨fd, ["self", "top", "bottom"], ["self", "top", "bottom", "divisor"], _, [], fnok D s_Frac_init (fun cdv A outer s H E hr => ?_), hbd, hva, fun _ => trivial, rfl, by decide, D.kp⟩
  have hu := hr.units
  have sc := s_Frac_init
  exact
    dss_cons (ds_if (dt_cmp (op_eqA (by exact hu)) (o_eq rfl) (de_v 2) (de_int))
     (dss_one (ds_raise0 (c := 1) rfl (L2N.takes_of rfl rfl rfl rfl) (F.ini0 51 50)))
     (dss_nil))
     (dss_cons (ds_set (i := 3) sc.nd (de_bin op_mulA (o_mul) (de_callG cr_gcd o_gcd (F.blt 46) (da_cons (de_v 1) (da_cons (de_v 2) (da_nil)))) (de_call (d_sign_of F) (hr.mono (by decide)) (F.glo 49) (L2N.takes_of rfl rfl rfl rfl) (da_cons (de_v 2) (da_nil)))))
     (dss_cons (ds_fld (i := 0) rfl (tab_cons ⟨⟨F.cls 33 (x := "Frac"), F.noat 35 (x := "Frac") (f := "top"), rfl⟩, (by decide : (fldA 6).Nodup), (by decide : (fldA 6).length < 1000)⟩ (tab_nil)) (de_bin op_divA (o_div) (de_v 1) (de_v 3)))
     (dss_one (ds_fld (i := 0) rfl (tab_cons ⟨⟨F.cls 33 (x := "Frac"), F.noat 34 (x := "Frac") (f := "bottom"), rfl⟩, (by decide : (fldA 6).Nodup), (by decide : (fldA 6).length < 1000)⟩ (tab_nil)) (de_bin op_divA (o_div) (de_v 2) (de_v 3))))))
theorem s_teeth : FnScope ["h", "k", "top", "bottom"] ["h", "k"] (defScope (top 17)) := ⟨rfl, rfl, rfl, by decide +kernel, rfl, by decide +kernel, by decide +kernel⟩
noncomputable def c_teeth : XS := (sIf (tCmp (bin (eV 1) (eC (.int 1)) (gII cLt))) (sErr1 2 (eV 1)) (sNx)).andThen ((sAsg (onA (aD (aC (eV 0) (aC (eV 1) (aN))) []) (callK 2 f__sum_by_turns)) (gU [gN 2, gN 3])).andThen (sRet (onA (aD (aC (eFz (eV 2)) (aC (bin (eC (.int 12)) (eV 3) (gMul)) (aN))) []) (makeK 6 3 f_Frac_init))))
noncomputable def f_teeth : FT := runF 4 c_teeth
theorem d_teeth {w : World} {K : PySem.W.Frag} {mg : Str → Option Value} {base : Heap} (F : FX fx fn K mg) : FnG rw.prog w K mg base (gam K) 5 2 (He.fAd K ("teeth", none)) f_teeth [] := by
  obtain ⟨fd, D⟩ := F.fd 12 56 (d := d_teeth_d)
  refine ⟨fd, ["h", "k"], ["h", "k", "top", "bottom"], _, _, fnok D s_teeth (fun cdv A outer s H E hr => ?_), D.bindsN (fun _ _ _ _ _ _ us hl => match us, hl with | [_, _], _ => rfl), .nil, fun _ => trivial, rfl, by decide, D.kp⟩
  have hu := hr.units
  have sc := s_teeth
  exact
    dss_cons (ds_if (dt_cmp op_lt (o_lt) (de_v 1) (de_int))
     (dss_one (ds_raise1 (c := 2) (k := 0) rfl (L2N.takes_of rfl rfl rfl rfl) (in_OutOfBounds F) (hr.mono (by decide)) (F.glo 55) (de_v 1)))
     (dss_nil))
     (dss_cons (ds_asg (de_call (d__sum_by_turns F) (hr.mono (by decide)) (F.glo 54) (L2N.takes_of rfl rfl rfl rfl) (da_cons (de_v 0) (da_cons (de_v 1) (da_nil)))) (dg_tup rfl rfl (dgs_cons (pgs_cons (dg_name (i := 2) sc.nd) (dgs_cons (pgs_cons (dg_name (i := 3) sc.nd) (dgs_nil)))))))
     (dss_one (ds_ret (de_make (c := 6) (d_Frac_init_2 F) (F.mkr 53) (hr.mono (by decide)) (F.glo 44) (L2N.takes_of rfl rfl rfl rfl) (da_cons (de_fz (de_v 2)) (da_cons (de_bin op_mulA (o_mul) (de_int) (de_v 3)) (da_nil)))))))
theorem s__law_right : FnScope ["h", "k", "p", "q"] ["h", "k"] (defScope (top 29)) := ⟨rfl, rfl, rfl, by decide +kernel, rfl, by decide +kernel, by decide +kernel⟩
noncomputable def c__law_right : XS := (sAsg (onA (aD (aC (eV 0) (aC (eV 1) (aN))) []) (callK 2 f__law_exchanged)) (gU [gN 2, gN 3])).andThen ((sIf (tAnd (tCmp (bin (eV 1) (eC (.int 60)) (gII cLe))) (tCmp (bin (onA (aD (aC (eV 0) (aC (eV 1) (aN))) []) (callK 2 f__law_defined)) (onA (aC (eFz (eV 2)) (aC (eFz (eV 3)) (aN))) kTup) (gNe)))) (sRet (eC (.bl false))) (sNx)).andThen (sRet (onA (aD (aC (onA (aD (aC (eV 0) (aC (eV 1) (aN))) []) (callK 2 f_teeth)) (aC (eV 2) (aC (eV 3) (aN)))) []) (callK 3 f__law_is_frac))))
noncomputable def f__law_right : FT := runF 4 c__law_right
theorem d__law_right {w : World} {K : PySem.W.Frag} {mg : Str → Option Value} {base : Heap} (F : FX fx fn K mg) : FnG rw.prog w K mg base (gam K) 6 2 (He.fAd K ("_law_right", none)) f__law_right [] := by
  obtain ⟨fd, D⟩ := F.fd 13 61 (d := d__law_right_d)
  refine ⟨fd, ["h", "k"], ["h", "k", "p", "q"], _, _, fnok D s__law_right (fun cdv A outer s H E hr => ?_), D.bindsN (fun _ _ _ _ _ _ us hl => match us, hl with | [_, _], _ => rfl), .nil, fun _ => trivial, rfl, by decide, D.kp⟩
  have hu := hr.units
  have sc := s__law_right
  exact
    dss_cons (ds_asg (de_call (d__law_exchanged F) (hr.mono (by decide)) (F.glo 60) (L2N.takes_of rfl rfl rfl rfl) (da_cons (de_v 0) (da_cons (de_v 1) (da_nil)))) (dg_tup rfl rfl (dgs_cons (pgs_cons (dg_name (i := 2) sc.nd) (dgs_cons (pgs_cons (dg_name (i := 3) sc.nd) (dgs_nil)))))))
     (dss_cons (ds_if ((dw_and (dt_cmp op_le (o_le) (de_v 1) (de_int)) (dw_and1 (dt_cmp (op_neA (by exact hu)) (o_ne rfl) (de_call (d__law_defined F) (hr.mono (by decide)) (F.glo 59) (L2N.takes_of rfl rfl rfl rfl) (da_cons (de_v 0) (da_cons (de_v 1) (da_nil)))) (de_tup (da_cons (de_fz (de_v 2)) (da_cons (de_fz (de_v 3)) (da_nil))))))).pt)
     (dss_one (ds_ret (de_bl)))
     (dss_nil))
     (dss_one (ds_ret (de_call (d__law_is_frac F) (hr.mono (by decide)) (F.glo 58) (L2N.takes_of rfl rfl rfl rfl) (da_cons (de_call (d_teeth F) (hr.mono (by decide)) (F.glo 57) (L2N.takes_of rfl rfl rfl rfl) (da_cons (de_v 0) (da_cons (de_v 1) (da_nil)))) (da_cons (de_v 2) (da_cons (de_v 3) (da_nil))))))))
theorem s__law_both : FnScope ["h", "k", "a", "b", "first", "second", "p", "q", "r", "s", "due"] ["h", "k"] (defScope (top 30)) := ⟨rfl, rfl, rfl, by decide +kernel, rfl, by decide +kernel, by decide +kernel⟩
noncomputable def c__law_both : XS := (sAsg (onA (aD (aC (eV 0) (aC (eV 1) (aN))) []) (callK 2 f__law_lowest)) (gU [gN 2, gN 3])).andThen ((sSet 4 (onA (aD (aC (eV 2) (aC (eV 3) (aN))) []) (callK 2 f_teeth))).andThen ((sSet 5 (onA (aD (aC (eV 3) (aC (eV 2) (aN))) []) (callK 2 f_teeth))).andThen ((sAsg (onA (aD (aC (eV 2) (aC (eV 3) (aN))) []) (callK 2 f__law_exchanged)) (gU [gN 6, gN 7])).andThen ((sAsg (onA (aD (aC (eV 3) (aC (eV 2) (aN))) []) (callK 2 f__law_exchanged)) (gU [gN 8, gN 9])).andThen ((sIf (tOr (tNot (tOf (onA (aD (aC (eV 4) (aC (eV 6) (aC (eV 7) (aN)))) []) (callK 3 f__law_is_frac)))) (tNot (tOf (onA (aD (aC (eV 5) (aC (eV 8) (aC (eV 9) (aN)))) []) (callK 3 f__law_is_frac))))) (sRet (eC (.bl false))) (sNx)).andThen ((sSet 10 (bin (bin (bin (bin (eV 2) (eV 2) (gMul)) (bin (eV 3) (eV 3) (gMul)) (gAdd)) (eC (.int 1)) (gAdd)) (bin (bin (eC (.int 3)) (eV 2) (gMul)) (eV 3) (gMul)) (gII cSub))).andThen (sRet (bin (bin (bin (bin (eC (.int 12)) (eV 2) (gMul)) (eV 3) (gMul)) (bin (bin (eV 6) (eV 9) (gMul)) (bin (eV 8) (eV 7) (gMul)) (gAdd)) (gMul)) (bin (bin (eV 7) (eV 9) (gMul)) (eV 10) (gMul)) (gEq)))))))))
noncomputable def f__law_both : FT := runF 11 c__law_both
theorem d__law_both {w : World} {K : PySem.W.Frag} {mg : Str → Option Value} {base : Heap} (F : FX fx fn K mg) : FnG rw.prog w K mg base (gam K) 6 2 (He.fAd K ("_law_both", none)) f__law_both [] := by
  obtain ⟨fd, D⟩ := F.fd 14 62 (d := d__law_both_d)
  refine ⟨fd, ["h", "k"], ["h", "k", "a", "b", "first", "second", "p", "q", "r", "s", "due"], _, _, fnok D s__law_both (fun cdv A outer s H E hr => ?_), D.bindsN (fun _ _ _ _ _ _ us hl => match us, hl with | [_, _], _ => rfl), .nil, fun _ => trivial, rfl, by decide, D.kp⟩
  have hu := hr.units
  have sc := s__law_both
  exact
    dss_cons (ds_asg (de_call (d__law_lowest F) (hr.mono (by decide)) (F.glo 12) (L2N.takes_of rfl rfl rfl rfl) (da_cons (de_v 0) (da_cons (de_v 1) (da_nil)))) (dg_tup rfl rfl (dgs_cons (pgs_cons (dg_name (i := 2) sc.nd) (dgs_cons (pgs_cons (dg_name (i := 3) sc.nd) (dgs_nil)))))))
     (dss_cons (ds_set (i := 4) sc.nd (de_call (d_teeth F) (hr.mono (by decide)) (F.glo 57) (L2N.takes_of rfl rfl rfl rfl) (da_cons (de_v 2) (da_cons (de_v 3) (da_nil)))))
     (dss_cons (ds_set (i := 5) sc.nd (de_call (d_teeth F) (hr.mono (by decide)) (F.glo 57) (L2N.takes_of rfl rfl rfl rfl) (da_cons (de_v 3) (da_cons (de_v 2) (da_nil)))))
     (dss_cons (ds_asg (de_call (d__law_exchanged F) (hr.mono (by decide)) (F.glo 60) (L2N.takes_of rfl rfl rfl rfl) (da_cons (de_v 2) (da_cons (de_v 3) (da_nil)))) (dg_tup rfl rfl (dgs_cons (pgs_cons (dg_name (i := 6) sc.nd) (dgs_cons (pgs_cons (dg_name (i := 7) sc.nd) (dgs_nil)))))))
     (dss_cons (ds_asg (de_call (d__law_exchanged F) (hr.mono (by decide)) (F.glo 60) (L2N.takes_of rfl rfl rfl rfl) (da_cons (de_v 3) (da_cons (de_v 2) (da_nil)))) (dg_tup rfl rfl (dgs_cons (pgs_cons (dg_name (i := 8) sc.nd) (dgs_cons (pgs_cons (dg_name (i := 9) sc.nd) (dgs_nil)))))))
     (dss_cons (ds_if ((dw_or (dt_not (PD.dt_of rfl (de_call (d__law_is_frac F) (hr.mono (by decide)) (F.glo 58) (L2N.takes_of rfl rfl rfl rfl) (da_cons (de_v 4) (da_cons (de_v 6) (da_cons (de_v 7) (da_nil))))))) (dw_or1 (dt_not (PD.dt_of rfl (de_call (d__law_is_frac F) (hr.mono (by decide)) (F.glo 58) (L2N.takes_of rfl rfl rfl rfl) (da_cons (de_v 5) (da_cons (de_v 8) (da_cons (de_v 9) (da_nil))))))))).pt)
     (dss_one (ds_ret (de_bl)))
     (dss_nil))
     (dss_cons (ds_set (i := 10) sc.nd (de_bin op_sub (o_sub) (de_bin op_addA (o_add rfl) (de_bin op_addA (o_add rfl) (de_bin op_mulA (o_mul) (de_v 2) (de_v 2)) (de_bin op_mulA (o_mul) (de_v 3) (de_v 3))) (de_int)) (de_bin op_mulA (o_mul) (de_bin op_mulA (o_mul) (de_int) (de_v 2)) (de_v 3))))
     (dss_one (ds_ret (de_cmp (op_eqA (by exact hu)) (o_eq rfl) (de_bin op_mulA (o_mul) (de_bin op_mulA (o_mul) (de_bin op_mulA (o_mul) (de_int) (de_v 2)) (de_v 3)) (de_bin op_addA (o_add rfl) (de_bin op_mulA (o_mul) (de_v 6) (de_v 9)) (de_bin op_mulA (o_mul) (de_v 8) (de_v 7)))) (de_bin op_mulA (o_mul) (de_bin op_mulA (o_mul) (de_v 7) (de_v 9)) (de_v 10)))))))))))
theorem s__law_pair : FnScope ["h", "k", "j", "g", "p", "q"] ["h", "k", "j", "g"] (defScope (top 31)) := ⟨rfl, rfl, rfl, by decide +kernel, rfl, by decide +kernel, by decide +kernel⟩
noncomputable def c__law_pair : XS := (sAsg (onA (aD (aC (eV 0) (aC (eV 1) (aN))) []) (callK 2 f__law_exchanged)) (gU [gN 4, gN 5])).andThen ((sIf (tOr (tNot (tOf (onA (aD (aC (eV 0) (aC (eV 1) (aN))) []) (callK 2 f__law_right)))) (tNot (tOf (onA (aD (aC (bin (eV 3) (eV 0) (gMul)) (aC (bin (eV 3) (eV 1) (gMul)) (aN))) []) (callK 2 f__law_right))))) (sRet (eC (.bl false))) (sNx)).andThen ((sIf (tNot (tOf (onA (aD (aC (onA (aD (aC (bin (eV 0) (bin (eV 2) (eV 1) (gMul)) (gAdd)) (aC (eV 1) (aN))) []) (callK 2 f_teeth)) (aC (eV 4) (aC (eV 5) (aN)))) []) (callK 3 f__law_is_frac)))) (sRet (eC (.bl false))) (sNx)).andThen ((sIf (tNot (tOf (onA (aD (aC (onA (aD (aC (bin (eV 3) (eV 0) (gMul)) (aC (bin (eV 3) (eV 1) (gMul)) (aN))) []) (callK 2 f_teeth)) (aC (eV 4) (aC (eV 5) (aN)))) []) (callK 3 f__law_is_frac)))) (sRet (eC (.bl false))) (sNx)).andThen ((sIf (tNot (tOf (onA (aD (aC (onA (aD (aC (un (eV 0) gNeg) (aC (eV 1) (aN))) []) (callK 2 f_teeth)) (aC (un (eV 4) gNeg) (aC (eV 5) (aN)))) []) (callK 3 f__law_is_frac)))) (sRet (eC (.bl false))) (sNx)).andThen (sRet (eOr (bin (eV 0) (eC (.int 1)) (gII cLt)) (onA (aD (aC (eV 0) (aC (eV 1) (aN))) []) (callK 2 f__law_both))))))))
noncomputable def f__law_pair : FT := runF 6 c__law_pair
theorem d__law_pair {w : World} {K : PySem.W.Frag} {mg : Str → Option Value} {base : Heap} (F : FX fx fn K mg) : FnG rw.prog w K mg base (gam K) 7 4 (He.fAd K ("_law_pair", none)) f__law_pair [] := by
  obtain ⟨fd, D⟩ := F.fd 15 65 (d := d__law_pair_d)
  refine ⟨fd, ["h", "k", "j", "g"], ["h", "k", "j", "g", "p", "q"], _, _, fnok D s__law_pair (fun cdv A outer s H E hr => ?_), D.bindsN (fun _ _ _ _ _ _ us hl => match us, hl with | [_, _, _, _], _ => rfl), .nil, fun _ => trivial, rfl, by decide, D.kp⟩
  have hu := hr.units
  have sc := s__law_pair
  exact
    dss_cons (ds_asg (de_call (d__law_exchanged F) (hr.mono (by decide)) (F.glo 60) (L2N.takes_of rfl rfl rfl rfl) (da_cons (de_v 0) (da_cons (de_v 1) (da_nil)))) (dg_tup rfl rfl (dgs_cons (pgs_cons (dg_name (i := 4) sc.nd) (dgs_cons (pgs_cons (dg_name (i := 5) sc.nd) (dgs_nil)))))))
     (dss_cons (ds_if ((dw_or (dt_not (PD.dt_of rfl (de_call (d__law_right F) (hr.mono (by decide)) (F.glo 64) (L2N.takes_of rfl rfl rfl rfl) (da_cons (de_v 0) (da_cons (de_v 1) (da_nil)))))) (dw_or1 (dt_not (PD.dt_of rfl (de_call (d__law_right F) (hr.mono (by decide)) (F.glo 64) (L2N.takes_of rfl rfl rfl rfl) (da_cons (de_bin op_mulA (o_mul) (de_v 3) (de_v 0)) (da_cons (de_bin op_mulA (o_mul) (de_v 3) (de_v 1)) (da_nil)))))))).pt)
     (dss_one (ds_ret (de_bl)))
     (dss_nil))
     (dss_cons (ds_if (dt_not (PD.dt_of rfl (de_call (d__law_is_frac F) (hr.mono (by decide)) (F.glo 58) (L2N.takes_of rfl rfl rfl rfl) (da_cons (de_call (d_teeth F) (hr.mono (by decide)) (F.glo 57) (L2N.takes_of rfl rfl rfl rfl) (da_cons (de_bin op_addA (o_add rfl) (de_v 0) (de_bin op_mulA (o_mul) (de_v 2) (de_v 1))) (da_cons (de_v 1) (da_nil)))) (da_cons (de_v 4) (da_cons (de_v 5) (da_nil)))))))
     (dss_one (ds_ret (de_bl)))
     (dss_nil))
     (dss_cons (ds_if (dt_not (PD.dt_of rfl (de_call (d__law_is_frac F) (hr.mono (by decide)) (F.glo 58) (L2N.takes_of rfl rfl rfl rfl) (da_cons (de_call (d_teeth F) (hr.mono (by decide)) (F.glo 57) (L2N.takes_of rfl rfl rfl rfl) (da_cons (de_bin op_mulA (o_mul) (de_v 3) (de_v 0)) (da_cons (de_bin op_mulA (o_mul) (de_v 3) (de_v 1)) (da_nil)))) (da_cons (de_v 4) (da_cons (de_v 5) (da_nil)))))))
     (dss_one (ds_ret (de_bl)))
     (dss_nil))
     (dss_cons (ds_if (dt_not (PD.dt_of rfl (de_call (d__law_is_frac F) (hr.mono (by decide)) (F.glo 58) (L2N.takes_of rfl rfl rfl rfl) (da_cons (de_call (d_teeth F) (hr.mono (by decide)) (F.glo 57) (L2N.takes_of rfl rfl rfl rfl) (da_cons (de_un un_neg o_neg (de_v 0)) (da_cons (de_v 1) (da_nil)))) (da_cons (de_un un_neg o_neg (de_v 4)) (da_cons (de_v 5) (da_nil)))))))
     (dss_one (ds_ret (de_bl)))
     (dss_nil))
     (dss_one (ds_ret (de_or (de_cmp op_lt (o_lt) (de_v 0) (de_int)) (de_one (de_call (d__law_both F) (hr.mono (by decide)) (F.glo 63) (L2N.takes_of rfl rfl rfl rfl) (da_cons (de_v 0) (da_cons (de_v 1) (da_nil))))))))))))
theorem s__law_refused : FnScope ["h", "k", "e"] ["h", "k"] (defScope (top 24)) := ⟨rfl, rfl, rfl, by decide +kernel, rfl, by decide +kernel, by decide +kernel⟩
noncomputable def c__law_refused : XS := (sTry (sExpr (onA (aD (aC (eV 0) (aC (eV 1) (aN))) []) (callK 2 f_teeth))) [⟨[(1, true), (2, true)], some 2, fun c fs => (sIf (tOr (tOf (eIsE [(1, true), (2, false)] c)) (tNot (tOf (eIsE [(1, true), (2, true)] c)))) (sRet (eC (.bl false))) (sNx)).andThen (sRet (eAnd (eIsE [(1, false), (2, true)] c) (eAnd (onA (aC (eXf [(2, 0)] c fs) (aN)) (callK 1 f__law_whole)) (bin (eXf [(2, 0)] c fs) (eV 1) (gEq)))))⟩]).andThen (sRet (eC (.bl false)))
noncomputable def f__law_refused : FT := runF 3 c__law_refused
theorem d__law_refused {w : World} {K : PySem.W.Frag} {mg : Str → Option Value} {base : Heap} (F : FX fx fn K mg) : FnG rw.prog w K mg base (gam K) 6 2 (He.fAd K ("_law_refused", none)) f__law_refused [] := by
  obtain ⟨fd, D⟩ := F.fd 16 81 (d := d__law_refused_d)
  refine ⟨fd, ["h", "k"], ["h", "k", "e"], _, _, fnok D s__law_refused (fun cdv A outer s H E hr => ?_), D.bindsN (fun _ _ _ _ _ _ us hl => match us, hl with | [_, _], _ => rfl), .nil, fun _ => trivial, rfl, by decide, D.kp⟩
  have hu := hr.units
  have sc := s__law_refused
  exact
    dss_cons (ds_try sc.nd (L2N.takes_of rfl rfl rfl rfl) rfl rfl
     (fun W1 _ _ tk1 hp1 => dss_one (ds_expr (de_call (d_teeth F) (hr.mono (by decide)) (F.glo 57) tk1 (da_cons (de_v 0) (da_cons (de_v 1) (da_nil))))))
     (.named (c := Nm.u K (.own "TurnError")) (i := 2) (by exact ⟨rfl, by decide, .inl (F.glo 80)⟩) rfl rfl (tab_cons (F.exmB 79 (x := "ZeroBottom") (c := .own "TurnError") (b := true)) (tab_cons (F.exmB 78 (x := "OutOfBounds") (c := .own "TurnError") (b := true)) (tab_nil)))
     (fun a oe c fs d B pn hz hf x => dss_cons (ds_if ((dw_or (PD.dt_of rfl (de_isET hz hf x (F.free 23) (tab_cons ⟨F.exI 69 (x := "ZeroBottom"), F.kitA 75 (t := .own "ZeroBottom") (cs := [.own "NotProper", .own "TooLong", .own "ZeroBottom"]) (b := true)⟩ (tab_cons ⟨F.exI 67 (x := "OutOfBounds"), F.kitA 74 (t := .own "OutOfBounds") (cs := [.own "NotProper", .own "TooLong", .own "ZeroBottom"]) (b := false)⟩ (tab_nil))) (.cons (pe_glob (v := Nm.v K (.own "NotProper")) (by rfl) (F.glo 77) (by rfl)) (Nm.cv K (.own "NotProper")) (.cons (pe_glob (v := Nm.v K (.own "TooLong")) (by rfl) (F.glo 76) (by rfl)) (Nm.cv K (.own "TooLong")) (.cons (pe_glob (v := Nm.v K (.own "ZeroBottom")) (by rfl) (F.glo 50) (by rfl)) (Nm.cv K (.own "ZeroBottom")) (.nil)))))) (dw_or1 (dt_not (PD.dt_of rfl (de_isE hz hf x (F.free 23) (tab_cons ⟨F.exI 69 (x := "ZeroBottom"), F.kit 72 (t := .own "ZeroBottom") (c := .ty "ValueError") (b := true)⟩ (tab_cons ⟨F.exI 67 (x := "OutOfBounds"), F.kit 71 (t := .own "OutOfBounds") (c := .ty "ValueError") (b := true)⟩ (tab_nil))) (pe_bltn (v := Nm.v K (.ty "ValueError")) (by rfl) (F.free 73) PD.boot_ValueError (by rfl)) (Nm.cv K (.ty "ValueError"))))))).pt)
     (dss_one (ds_ret (de_bl)))
     (dss_nil))
     (dss_one (ds_ret (de_and (de_isE hz hf x (F.free 23) (tab_cons ⟨F.exI 69 (x := "ZeroBottom"), F.kit 70 (t := .own "ZeroBottom") (c := .own "OutOfBounds") (b := false)⟩ (tab_cons ⟨F.exI 67 (x := "OutOfBounds"), F.kit 68 (t := .own "OutOfBounds") (c := .own "OutOfBounds") (b := true)⟩ (tab_nil))) (pe_glob (v := Nm.v K (.own "OutOfBounds")) (by rfl) (F.glo 55) (by rfl)) (Nm.cv K (.own "OutOfBounds"))) (de_and (de_callH (dh__law_whole F) (L2H.roomH_mark (hr.mono (by decide)) _) (hot_suite hz hf) (F.glo 36) (da_cons (de_xf hz hf x (tab_cons ⟨(F.xf 66 (x := "OutOfBounds") (f := "given")).1, (F.xf 66 (x := "OutOfBounds") (f := "given")).2, rfl⟩ (tab_nil))) (da_nil))) (de_one (de_cmp (op_eqA (by exact hu)) (o_eq rfl) (de_xf hz hf x (tab_cons ⟨(F.xf 66 (x := "OutOfBounds") (f := "given")).1, (F.xf 66 (x := "OutOfBounds") (f := "given")).2, rfl⟩ (tab_nil))) (de_v 1))))))))
     (.nil)))
     (dss_one (ds_ret (de_bl)))
theorem s_law : FnScope ["script", "pool", "pairs", "k", "power", "h", "many"] ["script"] (defScope (top 32)) := ⟨rfl, rfl, rfl, by decide +kernel, rfl, by decide +kernel, by decide +kernel⟩
noncomputable def c_law : XS := (sSet 1 (onA (aD (aC (eV 0) (aN)) []) (callK 1 f__law_pool))).andThen ((sSet 2 (onA (aN) kLst)).andThen ((sForR (aC (eC (.int 2)) (aN)) (gN 3) (sExpr (eMut 2 (aC (onA (aC (bin (onA (aD (aC (eV 1) (aC (eC (.int 400)) (aN))) []) (callK 2 f__law_draw)) (eC (.int 100)) (gII cSub)) (aC (bin (eC (.int 1)) (onA (aD (aC (eV 1) (aC (eC (.int 40)) (aN))) []) (callK 2 f__law_draw)) (gAdd)) (aN))) kTup) (aN)) mAppend))).andThen ((sSet 4 (onA (aD (aC (eV 1) (aC (eC (.int 8)) (aN))) []) (callK 2 f__law_draw))).andThen ((sForR (aC (eC (.int 2)) (aN)) (gN 3) ((sSet 5 (onA (aD (aC (eV 1) (aC (bin (eC (.int 10)) (eC (.int 20)) (gII cPow)) (aN))) []) (callK 2 f__law_draw))).andThen ((sSet 6 (bin (eC (.int 1)) (onA (aD (aC (eV 1) (aC (bin (eC (.int 10)) (eC (.int 20)) (gII cPow)) (aN))) []) (callK 2 f__law_draw)) (gAdd))).andThen ((sIf (tCmp (bin (eV 4) (eC (.int 7)) (gEq))) ((sSet 5 (bin (bin (eV 5) (eC (.int 7)) (gII cPow)) (eV 3) (gAdd))).andThen (sSet 6 (bin (bin (eV 6) (eC (.int 7)) (gII cPow)) (eC (.int 1)) (gAdd)))) (sNx)).andThen (sExpr (eMut 2 (aC (onA (aC (bin (eV 5) (bin (eC (.int 1)) (bin (eC (.int 2)) (onA (aD (aC (eV 1) (aC (eC (.int 2)) (aN))) []) (callK 2 f__law_draw)) (gMul)) (gII cSub)) (gMul)) (aC (eFz (eV 6)) (aN))) kTup) (aN)) mAppend)))))).andThen ((sForL (bin (eV 2) (eSl (eV 2) (oN) (oE (eC (.int 1)))) (gAdd)) (gU [gN 5, gN 3]) (sIf (tNot (tOf (onA (aD (aC (eV 5) (aC (eV 3) (aC (bin (onA (aD (aC (eV 1) (aC (eC (.int 7)) (aN))) []) (callK 2 f__law_draw)) (eC (.int 3)) (gII cSub)) (aC (bin (eC (.int 1)) (onA (aD (aC (eV 1) (aC (eC (.int 9)) (aN))) []) (callK 2 f__law_draw)) (gAdd)) (aN))))) []) (callK 4 f__law_pair)))) (sRet (eC (.bl false))) (sNx))).andThen ((sForL (onA (aC (eC (.int 0)) (aC (bin (un (eC (.int 1)) gNeg) (onA (aD (aC (eV 1) (aC (eC (.int 1000)) (aN))) []) (callK 2 f__law_draw)) (gII cSub)) (aN))) kLst) (gN 3) (sForL (eV 2) (gU [gN 5, gN 6]) (sIf (tNot (tOf (onA (aD (aC (eV 5) (aC (eV 3) (aN))) []) (callK 2 f__law_refused)))) (sRet (eC (.bl false))) (sNx)))).andThen (sRet (eC (.bl true)))))))))
noncomputable def f_law : FT := runF 7 c_law
theorem ok_law {w : World} {K : PySem.W.Frag} {mg : Str → Option Value} {base : Heap} (F : FX fx fn K mg) {fd : FuncData} (D : FunD K d_law_d.name d_law_d.qual d_law_d.params d_law_d.body d_law_d.scope (d_law_d.dvs K) (d_law_d.kws K) (He.fAd K d_law_d.at_) fd) : FnOk rw.prog w K mg base (L2N.CX rw.prog w) 8 (ga K "law") fd ["script"] (spT (gam K).bot ["script", "pool", "pairs", "k", "power", "h", "many"] 1 f_law) := by
  refine fnok (G := (gam K).bot) D s_law (fun cdv A outer s H E hr => ?_)
  have hu := hr.units
  have sc := s_law
  exact
    dss_cons (ds_set (i := 1) sc.nd (de_call (d__law_pool F) (hr.mono (by decide)) (F.glo 85) (L2N.takes_of rfl rfl rfl rfl) (da_cons (de_v 0) (da_nil))))
     (dss_cons (ds_set (i := 2) sc.nd (de_lst (da_nil)))
     (dss_cons (ds_forR (passes_of rfl) rfl rfl (F.free 3) (da_cons (de_int) (da_nil)) (dg_name (i := 3) sc.nd)
     (dss_one (ds_expr (de_mut (i := 2) PySem.F.slot_list_append PySem.F.type_list_append mt_append m_append (da_cons (de_tup (da_cons (de_bin op_sub (o_sub) (de_call (d__law_draw F) (hr.mono (by decide)) (F.glo 83) (L2N.takes_of rfl rfl rfl rfl) (da_cons (de_v 1) (da_cons (de_int) (da_nil)))) (de_int)) (da_cons (de_bin op_addA (o_add rfl) (de_int) (de_call (d__law_draw F) (hr.mono (by decide)) (F.glo 83) (L2N.takes_of rfl rfl rfl rfl) (da_cons (de_v 1) (da_cons (de_int) (da_nil))))) (da_nil)))) (da_nil))))))
     (dss_cons (ds_set (i := 4) sc.nd (de_call (d__law_draw F) (hr.mono (by decide)) (F.glo 83) (L2N.takes_of rfl rfl rfl rfl) (da_cons (de_v 1) (da_cons (de_int) (da_nil)))))
     (dss_cons (ds_forR (passes_of rfl) rfl rfl (F.free 3) (da_cons (de_int) (da_nil)) (dg_name (i := 3) sc.nd)
     (dss_cons (ds_set (i := 5) sc.nd (de_call (d__law_draw F) (hr.mono (by decide)) (F.glo 83) (L2N.takes_of rfl rfl rfl rfl) (da_cons (de_v 1) (da_cons (de_bin op_powA (o_pow) (de_int) (de_int)) (da_nil)))))
     (dss_cons (ds_set (i := 6) sc.nd (de_bin op_addA (o_add rfl) (de_int) (de_call (d__law_draw F) (hr.mono (by decide)) (F.glo 83) (L2N.takes_of rfl rfl rfl rfl) (da_cons (de_v 1) (da_cons (de_bin op_powA (o_pow) (de_int) (de_int)) (da_nil))))))
     (dss_cons (ds_if (dt_cmp (op_eqA (by exact hu)) (o_eq rfl) (de_v 4) (de_int))
     (dss_cons (ds_set (i := 5) sc.nd (de_bin op_addA (o_add rfl) (de_bin op_powA (o_pow) (de_v 5) (de_int)) (de_v 3)))
     (dss_one (ds_set (i := 6) sc.nd (de_bin op_addA (o_add rfl) (de_bin op_powA (o_pow) (de_v 6) (de_int)) (de_int)))))
     (dss_nil))
     (dss_one (ds_expr (de_mut (i := 2) PySem.F.slot_list_append PySem.F.type_list_append mt_append m_append (da_cons (de_tup (da_cons (de_bin op_mulA (o_mul) (de_v 5) (de_bin op_sub (o_sub) (de_int) (de_bin op_mulA (o_mul) (de_int) (de_call (d__law_draw F) (hr.mono (by decide)) (F.glo 83) (L2N.takes_of rfl rfl rfl rfl) (da_cons (de_v 1) (da_cons (de_int) (da_nil))))))) (da_cons (de_fz (de_v 6)) (da_nil)))) (da_nil)))))))))
     (dss_cons (ds_forL rfl (passes_of rfl) rfl (de_bin op_addA (o_add rfl) (de_v 2) (de_sl rfl (de_v 2) (do_none) (do_some (de_int)))) (dg_tup rfl rfl (dgs_cons (pgs_cons (dg_name (i := 5) sc.nd) (dgs_cons (pgs_cons (dg_name (i := 3) sc.nd) (dgs_nil))))))
     (dss_one (ds_if (dt_not (PD.dt_of rfl (de_call (d__law_pair F) (hr.mono (by decide)) (F.glo 84) (L2N.takes_of rfl rfl rfl rfl) (da_cons (de_v 5) (da_cons (de_v 3) (da_cons (de_bin op_sub (o_sub) (de_call (d__law_draw F) (hr.mono (by decide)) (F.glo 83) (L2N.takes_of rfl rfl rfl rfl) (da_cons (de_v 1) (da_cons (de_int) (da_nil)))) (de_int)) (da_cons (de_bin op_addA (o_add rfl) (de_int) (de_call (d__law_draw F) (hr.mono (by decide)) (F.glo 83) (L2N.takes_of rfl rfl rfl rfl) (da_cons (de_v 1) (da_cons (de_int) (da_nil))))) (da_nil))))))))
     (dss_one (ds_ret (de_bl)))
     (dss_nil))))
     (dss_cons (ds_forL rfl (passes_of rfl) rfl (de_lst (da_cons (de_int) (da_cons (de_bin op_sub (o_sub) (de_un un_neg o_neg (de_int)) (de_call (d__law_draw F) (hr.mono (by decide)) (F.glo 83) (L2N.takes_of rfl rfl rfl rfl) (da_cons (de_v 1) (da_cons (de_int) (da_nil))))) (da_nil)))) (dg_name (i := 3) sc.nd)
     (dss_one (ds_forL rfl (passes_of rfl) rfl (de_v 2) (dg_tup rfl rfl (dgs_cons (pgs_cons (dg_name (i := 5) sc.nd) (dgs_cons (pgs_cons (dg_name (i := 6) sc.nd) (dgs_nil))))))
     (dss_one (ds_if (dt_not (PD.dt_of rfl (de_call (d__law_refused F) (hr.mono (by decide)) (F.glo 82) (L2N.takes_of rfl rfl rfl rfl) (da_cons (de_v 5) (da_cons (de_v 3) (da_nil))))))
     (dss_one (ds_ret (de_bl)))
     (dss_nil))))))
     (dss_one (ds_ret (de_bl)))))))))
end Law
namespace Law
open PySem PySem.Spec PyProof.Rows L2 PD
open He (ga ma)
theorem finish {w : World} {K : PySem.W.Frag} {mg : Str → Option Value} {hp : Heap} (F : FX fx fn K mg) (KX : K.In hp) (G0 : hp.Ns mainGlobals mg)
    (h : ∀ ns : List Int, ns.length ≤ 63 → (∀ z ∈ ns, Builtin.Int.intBits z ≤ 1048576) → ∃ r, f_law [scr ns] = .ok (r, .sc (.bl true))) :
    ∃ (K' : PySem.W.Frag) (fd : FuncData) (sp : Sp), K'.In hp ∧ (∀ (s : Shared) (u : Value), BindsTo s fd ⟨[u], []⟩ [(("script" : Str), u)]) ∧
        (∀ (H : Hp) (a : Addr) (ns : List Int), ns.length ≤ 63 → (∀ z ∈ ns, Builtin.Int.intBits z ≤ 1048576) → Only H → SqL K' H a (ns.map V.int) → sp [.ref a] H (fun v _ => v = .bl true) fun _ _ _ => False) ∧
        ∀ base : Heap, K'.In base → base.Ns mainGlobals mg → FnOk rw.prog w K' mg base (L2N.CX rw.prog w) 8 (ga K "law") fd ["script"] sp := by
  obtain ⟨fd, D⟩ := F.fd 17 86 (d := d_law_d)
  have b := FunD.bindsA (ps := ["script"]) D fun _ _ _ _ _ _ us hl => match us, hl with | [_], _ => rfl
  refine ⟨K, fd, spT (gam K).bot ["script", "pool", "pairs", "k", "power", "h", "many"] 1 f_law, KX, fun s v => b s [v] rfl, fun H a ns hl hb _ hS => ?_, fun base _ _ => ok_law F D⟩
  obtain ⟨r, e⟩ := h ns hl hb
  exact spT_law (by decide) hS e
end Law

open PySem PySem.W PySem.Calls PyProof.Rows PD
theorem Law.ends (h : ∀ ns : List Int, ns.length ≤ 63 → (∀ z ∈ ns, Builtin.Int.intBits z ≤ 1048576) → ∃ r, Law.f_law [PD.scr ns] = .ok (r, .sc (.bl true))) : PySem.Challenge.rw_goodturns_k70_teeth_by_definition.Holds := by
  w_on; o_law
  refine HandSHeadRun.head_imp (r := OpenLaw.row PySem.Challenge.rw_goodturns_k70_teeth_by_definition) (q := view (OpenLaw.row PySem.Challenge.rw_goodturns_k70_teeth_by_definition).prog [0, 32]) (H := Law.hk) (ob := Law.ob) (M := 4000) (loose := Law.names) (d := HandSHeadRun.topDef (OpenLaw.row PySem.Challenge.rw_goodturns_k70_teeth_by_definition).prog 32) (kwd := []) Law.ob_eq
    Law.run (by kernel_rfl) (by kernel_rfl) (by kernel_rfl) (by rfl) (by first | assumption | decide +kernel) (by decide +kernel) ⟨rfl, rfl, rfl, rfl, rfl, by decide +kernel⟩ ?hw ?hc
  case hw => w_witness2
  case hc =>
    refine PD.walk_ofP (l := PySem.Challenge.rw_goodturns_k70_teeth_by_definition) (n := 63) (k := 8) (x := "script") rfl (by decide) (by kernel_rfl) ⟨rfl, by decide, by decide⟩ ?F
    intro w mg fa hp Y G hmg0
    obtain ⟨K, KX, c⟩ := Y
    have hmg : mg ("law" : PySem.Str) = some (.ref fa) := by
      have e : (HandSHeadRun.topDef (OpenLaw.row PySem.Challenge.rw_goodturns_k70_teeth_by_definition).prog 32).name = ("law" : PySem.Str) := by kernel_rfl
      rw [← e]
      exact hmg0
    have F : PD.FX Law.fx Law.fn K mg := PD.FX.of KX G c
    have e := hmg.symm.trans (F.glo 89)
    cases e
    exact Law.finish F KX G h
end PartLk70

section PartPDQ
set_option Elab.async false
set_option linter.all false
set_option maxRecDepth 100000
set_option maxHeartbeats 4000000
/-! ### calls, evaluated -/
namespace PD
open PySem L2

theorem lend_id (r : Env) (t : T) (h : isSh t = true) : lend r t = t := by
  cases t with
  | sc v => rfl
  | nd f k xs => cases f <;> first | (cases k <;> rfl) | cases h
  | rf i => cases h
theorem lend_all (r : Env) : ∀ ts : List T, ts.all isSh = true → ts.map (lend r) = ts
  | [], _ => rfl
  | t :: ts, h => by
    rw [List.all_cons] at h
    obtain ⟨h1, h2⟩ := Bool.and_eq_true_iff.mp h
    rw [List.map_cons, lend_id r t h1, lend_all r ts h2]
theorem back_all : ∀ (ts : List T) (r rc : Env), ts.all isSh = true → back r ts rc = r
  | [], r, rc, _ => by unfold back <;> rfl
  | t :: ts, r, rc, h => by
    rw [List.all_cons] at h
    obtain ⟨h1, h2⟩ := Bool.and_eq_true_iff.mp h
    cases t with
    | sc v =>
      cases rc with
      | nil => rfl
      | cons c rc => exact back_all ts r rc h2
    | nd f k xs =>
      cases rc with
      | nil => rfl
      | cons c rc => exact back_all ts r rc h2
    | rf i => cases h1
theorem refs_all : ∀ ts : List T, ts.all isSh = true → refs ts = []
  | [], _ => rfl
  | t :: ts, h => by
    rw [List.all_cons] at h
    obtain ⟨h1, h2⟩ := Bool.and_eq_true_iff.mp h
    cases t with
    | sc v => exact refs_all ts h2
    | nd f k xs => exact refs_all ts h2
    | rf i => cases h1
/-- a call whose arguments are all shared -/
theorem callK_sh {n : Nat} {F : FT} {r rc : Env} {ts : List T} {t : T} (h : F ts = .ok (rc, t)) (hs : ts.all isSh = true := by rfl) (hl : ts.length = n := by rfl) : callK n F r ts = .ok (r, t) := by
  unfold callK
  rw [if_pos ⟨hl, by rw [refs_all ts hs]; rfl⟩, lend_all r ts hs, h]
  show Res.ok (back r ts rc, t) = _
  rw [back_all ts r rc hs]
theorem callK_err {n : Nat} {F : FT} {r rc : Env} {ts : List T} {c : Nat} {fs : List T} (h : F ts = .err rc c fs) (hs : ts.all isSh = true := by rfl) (hl : ts.length = n := by rfl) : callK n F r ts = .err r c fs := by
  unfold callK
  rw [if_pos ⟨hl, by rw [refs_all ts hs]; rfl⟩, lend_all r ts hs, h]
  show Res.err (back r ts rc) c fs = _
  rw [back_all ts r rc hs]
/-- an instance made of shared arguments -/
theorem makeK_sh {c n c2 : Nat} {F : FT} {r rr : Env} {ts ys : List T} (h : F (.nd .ln (.ins c) [] :: ts) = .ok (some (.nd .ln (.ins c2) ys) :: rr, .sc .non)) (hs : ts.all isSh = true := by rfl) (hl : ts.length + 1 = n := by rfl) : makeK c n F r ts = .ok (r, .nd .sh (.ins c) ys) := by
  unfold makeK
  rw [if_pos ⟨hl, by rw [refs_all ts hs]; rfl⟩, lend_all r ts hs, h]
  show Res.ok (back r ts rr, _) = _
  rw [back_all ts r rr hs]
theorem wh_step {c : XT} {b : XS} {r r1 r2 : Env} (hc : c r = .ok (r1, true)) (hb : b r1 = .ok (.nx r2)) : sWh c b r = sWh c b r2 := by
  rw [sWh_eq, hc]
  show loopK (b r1) _ = _
  rw [hb]
  rfl
theorem wh_stop {c : XT} {b : XS} {r r1 : Env} (hc : c r = .ok (r1, false)) : sWh c b r = .ok (.nx r1) := by
  rw [sWh_eq, hc]
  rfl
instance : Bd 1 (0 : Int) := ⟨by decide⟩
instance : Bd 1 (1 : Int) := ⟨by decide⟩
instance : Bd 2 (2 : Int) := ⟨by decide⟩
instance : Bd 2 (3 : Int) := ⟨by decide⟩
instance : Bd 3 (4 : Int) := ⟨by decide⟩
instance : Bd 3 (5 : Int) := ⟨by decide⟩
instance : Bd 3 (6 : Int) := ⟨by decide⟩
instance : Bd 3 (7 : Int) := ⟨by decide⟩
instance : Bd 4 (8 : Int) := ⟨by decide⟩
instance : Bd 4 (9 : Int) := ⟨by decide⟩
instance : Bd 4 (10 : Int) := ⟨by decide⟩
instance : Bd 4 (12 : Int) := ⟨by decide⟩
instance : Bd 5 (31 : Int) := ⟨by decide⟩
instance : Bd 7 (100 : Int) := ⟨by decide⟩
instance : Bd 6 (60 : Int) := ⟨by decide⟩
instance : Bd 9 (400 : Int) := ⟨by decide⟩
instance : Bd 16 (48271 : Int) := ⟨by decide⟩
instance : Bd 17 (69621 : Int) := ⟨by decide⟩
instance : Bd 15 (16807 : Int) := ⟨by decide⟩
instance : Bd 31 (2147483629 : Int) := ⟨by decide⟩
instance : Bd 31 (2147483587 : Int) := ⟨by decide⟩
instance : Bd 31 (2147483647 : Int) := ⟨by decide⟩
end PD
end PartPDQ

section PartM70
set_option linter.all false
/-! ### Dedekind sums by turns: plain arithmetic -/
namespace M70

/-- turns of u over l, by fuel: (total, sign, B, C) -/
def run : Nat → Int → Int → Int × Int × Int × Int
  | 0, _, _ => (0, 1, 0, 1)
  | n + 1, u, l => if 0 < l then
      let q := run n l (u % l)
      (u / l - q.1, -q.2.1, (u / l) * q.2.2.1 + q.2.2.2, q.2.2.1)
    else (0, 1, 0, 1)
theorem run_zero (n : Nat) (u l : Int) (h : ¬ 0 < l) : run n u l = (0, 1, 0, 1) := by
  cases n with
  | zero => rfl
  | succ n => simp [run, h]
theorem run_step (n : Nat) (u l : Int) (h : 0 < l) : run (n + 1) u l = (u / l - (run n l (u % l)).1, -(run n l (u % l)).2.1, (u / l) * (run n l (u % l)).2.2.1 + (run n l (u % l)).2.2.2, (run n l (u % l)).2.2.1) := by
  simp [run, h]
/-- enough fuel is enough -/
theorem run_fuel : ∀ (n m : Nat) (u l : Int), l.toNat ≤ n → l.toNat ≤ m → run n u l = run m u l
  | 0, m, u, l, h, _ => by rw [run_zero 0 u l (by omega), run_zero m u l (by omega)]
  | n + 1, 0, u, l, _, h => by rw [run_zero 0 u l (by omega), run_zero (n + 1) u l (by omega)]
  | n + 1, m + 1, u, l, h1, h2 => by
    by_cases p : 0 < l
    · have lt : u % l < l := Int.emod_lt_of_pos _ p
      rw [run_step n u l p, run_step m u l p, run_fuel n m l (u % l) (by omega) (by omega)]
    · rw [run_zero _ u l p, run_zero _ u l p]
def go (u l : Int) : Int × Int × Int × Int := run l.toNat u l
theorem go_zero (u l : Int) (h : ¬ 0 < l) : go u l = (0, 1, 0, 1) := run_zero _ _ _ h
theorem go_step (u l : Int) (h : 0 < l) : go u l = (u / l - (go l (u % l)).1, -(go l (u % l)).2.1, (u / l) * (go l (u % l)).2.2.1 + (go l (u % l)).2.2.2, (go l (u % l)).2.2.1) := by
  unfold go
  obtain ⟨n, e⟩ : ∃ n, l.toNat = n + 1 := ⟨l.toNat - 1, by omega⟩
  have lt : u % l < l := Int.emod_lt_of_pos _ h
  rw [e, run_step n u l h, run_fuel n (u % l).toNat l (u % l) (by omega) (Nat.le_refl _)]
def tot (u l : Int) : Int := (go u l).1
def sgn (u l : Int) : Int := (go u l).2.1
def bb (u l : Int) : Int := (go u l).2.2.1
def cc (u l : Int) : Int := (go u l).2.2.2
theorem tot_step {u l : Int} (h : 0 < l) : tot u l = u / l - tot l (u % l) := by unfold tot; rw [go_step u l h]
theorem sgn_step {u l : Int} (h : 0 < l) : sgn u l = -sgn l (u % l) := by unfold sgn; rw [go_step u l h]
theorem bb_step {u l : Int} (h : 0 < l) : bb u l = (u / l) * bb l (u % l) + cc l (u % l) := by unfold bb cc; rw [go_step u l h]
theorem cc_step {u l : Int} (h : 0 < l) : cc u l = bb l (u % l) := by unfold bb cc; rw [go_step u l h]
theorem tot_zero {u : Int} : tot u 0 = 0 := by unfold tot; rw [go_zero u 0 (by decide)]
theorem sgn_zero {u : Int} : sgn u 0 = 1 := by unfold sgn; rw [go_zero u 0 (by decide)]
theorem bb_zero {u : Int} : bb u 0 = 0 := by unfold bb; rw [go_zero u 0 (by decide)]
theorem cc_zero {u : Int} : cc u 0 = 1 := by unfold cc; rw [go_zero u 0 (by decide)]
/-- induction along the turns -/
theorem turns {P : Int → Int → Prop} (z : ∀ u, P u 0) (s : ∀ u l, 0 < l → P l (u % l) → P u l) : ∀ (u l : Int), 0 ≤ l → P u l := by
  have key : ∀ (n : Nat) (u l : Int), l.toNat ≤ n → 0 ≤ l → P u l := by
    intro n
    induction n with
    | zero =>
      intro u l h h0
      have e : l = 0 := by omega
      subst e
      exact z u
    | succ n ih =>
      intro u l h h0
      by_cases p : 0 < l
      · have h1 : 0 ≤ u % l := Int.emod_nonneg _ (by omega)
        have h2 : u % l < l := Int.emod_lt_of_pos _ p
        exact s u l p (ih l (u % l) (by omega) h1)
      · have e : l = 0 := by omega
        subst e
        exact z u
  exact fun u l h => key l.toNat u l (Nat.le_refl _) h
theorem sgn_sq (u l : Int) (h : 0 ≤ l) : sgn u l = 1 ∨ sgn u l = -1 := by
  refine turns (P := fun u l => sgn u l = 1 ∨ sgn u l = -1) (fun u => .inl sgn_zero) (fun u l hl ih => ?_) u l h
  rw [sgn_step hl]
  omega
theorem gcd_turn (u l : Int) : Int.gcd l (u % l) = Int.gcd u l := by
  rw [Int.emod_def, Int.gcd_sub_mul_left_right, Int.gcd_comm]
theorem det (u l : Int) (hl : 0 ≤ l) (g : Int.gcd u l = 1) (hu : 0 ≤ u) : u * cc u l - l * bb u l = sgn u l := by
  refine turns (P := fun u l => 0 ≤ u → Int.gcd u l = 1 → u * cc u l - l * bb u l = sgn u l) (fun u hu g => ?_) (fun u l hl ih hu g => ?_) u l hl hu g
  · rw [cc_zero, bb_zero, sgn_zero]
    have e : u.natAbs = 1 := by simpa [Int.gcd] using g
    omega
  · have h := ih (by omega) (by rw [gcd_turn]; exact g)
    rw [cc_step hl, bb_step hl, sgn_step hl, ← h]
    have e2 := Int.emod_add_mul_ediv u l
    generalize u % l = m at *
    generalize u / l = q at *
    subst e2
    grind
/-- 12 b s(a, b) for 0 <= a < b, prime to each other -/
def TT (a b : Int) : Int := tot b a * b + a - sgn b a * bb b a - (if sgn b a = -1 then 3 * b else 0)
theorem TT_zero (b : Int) : TT 0 b = 0 := by
  unfold TT
  rw [tot_zero, sgn_zero, bb_zero]
  simp
/-- reciprocity, downwards -/
theorem recip {a b : Int} (h0 : 0 < a) (g : Int.gcd b a = 1) (hb : 0 ≤ b) : a * TT a b + b * TT (b % a) a = a * a + b * b + 1 - 3 * a * b := by
  have hd := det a (b % a) (Int.emod_nonneg _ (by omega)) (by rw [gcd_turn]; exact g) (by omega)
  have hs := sgn_sq a (b % a) (Int.emod_nonneg _ (by omega))
  have e2 := Int.emod_add_mul_ediv b a
  unfold TT
  rw [tot_step h0, sgn_step h0, bb_step h0]
  generalize tot a (b % a) = t at *
  generalize bb a (b % a) = x at *
  generalize cc a (b % a) = y at *
  generalize sgn a (b % a) = s at *
  generalize b % a = m at *
  generalize b / a = q at *
  subst e2
  rcases hs with hs | hs <;> subst hs
  · simp
    grind
  · simp
    grind
/-- the other residue -/
theorem odd {a b : Int} (h0 : 0 < a) (h1 : a < b) (g : Int.gcd b a = 1) : TT (b - a) b = -TT a b := by
  have key : ∀ a c : Int, 0 < a → a < c → Int.gcd (a + c) a = 1 → TT c (a + c) = -TT a (a + c) := fun a c h0 h1 g => by
    have gc : Int.gcd c a = 1 := by
      rw [← g, Int.gcd_comm c a, Int.gcd_comm (a + c) a]
      have := Int.gcd_add_mul_left_right a c 1
      rw [Int.mul_one, Int.add_comm] at this
      exact this.symm
    have gc2 : Int.gcd (a + c) c = 1 := by
      rw [Int.gcd_comm]
      have := Int.gcd_add_mul_left_right c a 1
      rw [Int.mul_one] at this
      rw [this]
      exact gc
    have r1 := recip (a := c) (b := a + c) (by omega) gc2 (by omega)
    have r2 := recip (a := a) (b := c) h0 gc (by omega)
    have r3 := recip (a := a) (b := a + c) h0 g (by omega)
    have e1 : (a + c) % c = a := by
      rw [Int.add_emod_right]
      exact Int.emod_eq_of_lt (by omega) h1
    have e2 : (a + c) % a = c % a := by rw [Int.add_comm, Int.add_emod_right]
    rw [e1] at r1
    rw [e2] at r3
    generalize TT c (a + c) = x at *
    generalize TT a c = z at *
    generalize TT (c % a) a = w at *
    generalize TT a (a + c) = y at *
    have hz : a * c * (x + y) = 0 := by grind
    rcases Int.mul_eq_zero.mp hz with q | q
    · rcases Int.mul_eq_zero.mp q with q | q <;> omega
    · omega
  rcases Int.lt_trichotomy a (b - a) with q | q | q
  · have e : b = a + (b - a) := by omega
    have z := key a (b - a) h0 q (by rw [← e]; exact g)
    rw [← e] at z
    exact z
  · have e : b = 2 * a := by omega
    subst e
    have ga : a = 1 := by
      have : Int.gcd (2 * a) a = a.natAbs := by rw [Int.gcd_comm]; simp [Int.gcd, Int.natAbs_mul]
      omega
    subst ga
    decide
  · have e : b = (b - a) + a := by omega
    have g2 : Int.gcd b (b - a) = 1 := by
      rw [← g, Int.gcd_comm b a, Int.gcd_comm b (b - a)]
      have h1 := Int.gcd_add_mul_left_right (b - a) a 1
      have h2 := Int.gcd_add_mul_left_right a (b - a) 1
      rw [Int.mul_one] at h1 h2
      rw [show a + (b - a) = b by omega] at h1
      rw [show b - a + a = b by omega] at h2
      rw [h1, h2, Int.gcd_comm]
    have z := key (b - a) a (by omega) (by omega) (by rw [← e]; exact g2)
    rw [← e] at z
    omega
/-! sizes -/
theorem tot_le (u l : Int) (h : 0 ≤ l) (hu : 0 ≤ u) : -(u + l) ≤ tot u l ∧ tot u l ≤ u + l := by
  refine turns (P := fun u l => 0 ≤ u → -(u + l) ≤ tot u l ∧ tot u l ≤ u + l) (fun u hu => ?_) (fun u l hl ih hu => ?_) u l h hu
  · rw [tot_zero]
    omega
  · have z := ih (by omega)
    rw [tot_step hl]
    have e := Int.emod_add_mul_ediv u l
    have q0 : 0 ≤ u / l := Int.ediv_nonneg hu (by omega)
    have q1 : u / l ≤ l * (u / l) := by
      have := Int.mul_le_mul_of_nonneg_right (show (1 : Int) ≤ l by omega) q0
      rw [Int.one_mul] at this
      exact this
    omega
theorem bc_le (u l : Int) (h : 0 ≤ l) (hu : 1 ≤ u) : 0 ≤ bb u l ∧ bb u l ≤ u ∧ 0 ≤ cc u l ∧ (0 < l → cc u l ≤ l) ∧ (l = 0 → bb u l = 0 ∧ cc u l = 1) := by
  refine turns (P := fun u l => 1 ≤ u → 0 ≤ bb u l ∧ bb u l ≤ u ∧ 0 ≤ cc u l ∧ (0 < l → cc u l ≤ l) ∧ (l = 0 → bb u l = 0 ∧ cc u l = 1)) (fun u hu => ?_) (fun u l hl ih hu => ?_) u l h hu
  · rw [bb_zero, cc_zero]
    omega
  · obtain ⟨z1, z2, z3, z4, z5⟩ := ih (by omega)
    have e := Int.emod_add_mul_ediv u l
    have m0 : 0 ≤ u % l := Int.emod_nonneg _ (by omega)
    have q0 : 0 ≤ u / l := Int.ediv_nonneg (by omega) (by omega)
    rw [bb_step hl, cc_step hl]
    have q1 : 0 ≤ u / l * bb l (u % l) := Int.mul_nonneg q0 z1
    by_cases m : u % l = 0
    · obtain ⟨e1, e2⟩ := z5 m
      rw [e1, e2, Int.mul_zero]
      omega
    · have z4 := z4 (by omega)
      have q2 : u / l * bb l (u % l) ≤ l * (u / l) := by
        rw [Int.mul_comm l]
        exact Int.mul_le_mul_of_nonneg_left z2 q0
      omega
/-! lowest terms -/
def low (p q : Int) : Int × Int := (p / (Int.gcd p q : Int), q / (Int.gcd p q : Int))
theorem low_scale (p q c : Int) (hc : 0 < c) (hq : 0 < q) : low (p * c) (q * c) = low p q := by
  unfold low
  have e : ((Int.gcd (p * c) (q * c) : Nat) : Int) = (Int.gcd p q : Int) * c := by
    rw [Int.gcd_mul_right, Int.natCast_mul]
    congr 1
    omega
  rw [e, Int.mul_ediv_mul_of_pos_left _ _ hc, Int.mul_ediv_mul_of_pos_left _ _ hc]
theorem low_eq {p q p' q' : Int} (hq : 0 < q) (hq' : 0 < q') (h : p * q' = p' * q) : low p q = low p' q' := by
  rw [← low_scale p q q' hq' hq, ← low_scale p' q' q hq hq', h, Int.mul_comm q q']
theorem gcd_pos {p q : Int} (hq : 0 < q) : 0 < (Int.gcd p q : Int) := by
  have : Int.gcd p q ≠ 0 := fun z => by
    have := (Int.gcd_eq_zero_iff.mp z).2
    omega
  omega
theorem gcd_le {p q : Int} (hq : 0 < q) : (Int.gcd p q : Int) ≤ q := Int.le_of_dvd hq (Int.gcd_dvd_right p q)
/-! the sum, its reduced pair -/
def rb (h k : Int) : Int := k / (Int.gcd h k : Int)
def ra (h k : Int) : Int := (h / (Int.gcd h k : Int)) % rb h k
theorem rb_pos {h k : Int} (hk : 0 < k) : 0 < rb h k := Int.ediv_pos_of_pos_of_dvd hk (Int.le_of_lt (gcd_pos hk)) (Int.gcd_dvd_right h k)
theorem rb_le {h k : Int} (hk : 0 < k) : rb h k ≤ k := Int.ediv_le_self _ (by omega)
theorem ra_range {h k : Int} (hk : 0 < k) : 0 ≤ ra h k ∧ ra h k < rb h k := ⟨Int.emod_nonneg _ (by have := rb_pos (h := h) hk; omega), Int.emod_lt_of_pos _ (rb_pos hk)⟩
theorem split_gcd {h k : Int} (hk : 0 < k) : h = (Int.gcd h k : Int) * (h / (Int.gcd h k : Int)) ∧ k = (Int.gcd h k : Int) * rb h k ∧ Int.gcd (h / (Int.gcd h k : Int)) (rb h k) = 1 := by
  have g := gcd_pos (p := h) hk
  have e1 := Int.mul_ediv_cancel' (Int.gcd_dvd_left h k)
  have e2 := Int.mul_ediv_cancel' (Int.gcd_dvd_right h k)
  refine ⟨e1.symm, e2.symm, ?_⟩
  have z : Int.gcd h k = (Int.gcd h k : Int).natAbs * Int.gcd (h / (Int.gcd h k : Int)) (rb h k) := by
    rw [← Int.gcd_mul_left]
    unfold rb
    rw [e1, e2]
  rw [Int.natAbs_natCast] at z
  have g0 : 0 < Int.gcd h k := by omega
  exact Nat.eq_of_mul_eq_mul_left g0 (by rw [Nat.mul_one]; exact z.symm)
theorem ra_prime {h k : Int} (hk : 0 < k) : Int.gcd (rb h k) (ra h k) = 1 := by
  obtain ⟨_, _, e⟩ := split_gcd (h := h) hk
  unfold ra
  rw [gcd_turn]
  exact e
def S (h k : Int) : Int := TT (ra h k) (rb h k)
def P (h k : Int) : Int × Int := low (S h k) (12 * rb h k)
/-! by definition, for small k -/
def step (h k t i : Int) : Int := if (h * i) % k = 0 then t else t + (2 * i - k) * (2 * ((h * i) % k) - k)
def D (h k : Int) : Int := (List.range (k - 1).toNat).foldl (fun t (j : Nat) => step h k t (1 + (j : Int))) 0
def chk1 (r k : Nat) : Bool := D r k * (12 * rb r k) == S r k * (4 * k * k)
def chk : Bool := (List.range 61).all fun k => (List.range k).all fun r => chk1 r k
theorem chk_ok : chk = true := by decide +kernel
theorem emod_mul_eq (h i k : Int) : (h % k * i) % k = (h * i) % k := by
  rw [Int.mul_emod (h % k) i k, Int.emod_emod_of_dvd _ (Int.dvd_refl k), ← Int.mul_emod]
theorem D_mod (h k : Int) : D (h % k) k = D h k := by
  unfold D step
  simp only [emod_mul_eq]
theorem gcd_per (h k j : Int) : Int.gcd (h + j * k) k = Int.gcd h k := by
  rw [Int.gcd_comm, Int.gcd_add_mul_right_right, Int.gcd_comm]
theorem rb_per (h k j : Int) : rb (h + j * k) k = rb h k := by
  unfold rb
  rw [gcd_per]
theorem ra_per (h k j : Int) (hk : 0 < k) : ra (h + j * k) k = ra h k := by
  unfold ra
  rw [rb_per, gcd_per]
  have g := gcd_pos (p := h) hk
  obtain ⟨_, e2, _⟩ := split_gcd (h := h) hk
  have e : h + j * k = h + (Int.gcd h k : Int) * (rb h k * j) := by
    rw [← Int.mul_assoc, ← e2, Int.mul_comm]
  rw [e, Int.add_mul_ediv_left _ _ (by omega), Int.add_mul_emod_self_left]
theorem S_per (h k j : Int) (hk : 0 < k) : S (h + j * k) k = S h k := by
  unfold S
  rw [ra_per h k j hk, rb_per]
theorem P_per (h k j : Int) (hk : 0 < k) : P (h + j * k) k = P h k := by
  unfold P
  rw [S_per h k j hk, rb_per]
theorem mod_per (h k : Int) : h = h % k + (h / k) * k := by
  have := Int.emod_add_mul_ediv h k
  rw [Int.mul_comm] at this
  exact this.symm
theorem small {h k : Int} (hk : 0 < k) (h60 : k ≤ 60) : low (D h k) (4 * k * k) = P h k := by
  have m0 := Int.emod_nonneg h (show k ≠ 0 by omega)
  have m1 := Int.emod_lt_of_pos h hk
  have c : chk1 (h % k).toNat k.toNat = true := by
    have z := List.all_eq_true.mp chk_ok k.toNat (List.mem_range.mpr (by omega))
    exact List.all_eq_true.mp z (h % k).toNat (List.mem_range.mpr (by omega))
  unfold chk1 at c
  have c2 := beq_iff_eq.mp c
  rw [Int.toNat_of_nonneg m0, Int.toNat_of_nonneg (show 0 ≤ k by omega)] at c2
  have r1 : rb (h % k) k = rb h k := by
    have z := rb_per (h % k) k (h / k)
    rw [← mod_per] at z
    exact z.symm
  have s1 : S (h % k) k = S h k := by
    have z := S_per (h % k) k (h / k) hk
    rw [← mod_per] at z
    exact z.symm
  rw [D_mod, r1, s1] at c2
  have rp := rb_pos (h := h) hk
  unfold P
  exact low_eq (Int.mul_pos (by omega) hk) (by omega) c2
/-! scaled, negated -/
theorem rb_scale (h k g : Int) (hg : 0 < g) : rb (g * h) (g * k) = rb h k := by
  unfold rb
  rw [Int.gcd_mul_left, Int.natCast_mul, show ((g.natAbs : Nat) : Int) = g by omega, Int.mul_ediv_mul_of_pos _ _ hg]
theorem ra_scale (h k g : Int) (hg : 0 < g) : ra (g * h) (g * k) = ra h k := by
  unfold ra
  rw [rb_scale h k g hg, Int.gcd_mul_left, Int.natCast_mul, show ((g.natAbs : Nat) : Int) = g by omega, Int.mul_ediv_mul_of_pos _ _ hg]
theorem P_scale (h k g : Int) (hg : 0 < g) : P (g * h) (g * k) = P h k := by
  unfold P S
  rw [ra_scale h k g hg, rb_scale h k g hg]
end M70
end PartM70

section PartM70b
set_option linter.all false
namespace M70
theorem rb_neg (h k : Int) : rb (-h) k = rb h k := by
  unfold rb
  rw [Int.neg_gcd]
theorem ra_neg (h k : Int) (hk : 0 < k) : ra (-h) k = if ra h k = 0 then 0 else rb h k - ra h k := by
  have rp := rb_pos (h := h) hk
  have g := gcd_pos (p := h) hk
  unfold ra
  rw [rb_neg, Int.neg_gcd, Int.neg_ediv_of_dvd (Int.gcd_dvd_left h k)]
  generalize h / (Int.gcd h k : Int) = x
  generalize rb h k = b at *
  have e := Int.emod_add_mul_ediv x b
  have m0 := Int.emod_nonneg x (show b ≠ 0 by omega)
  have m1 := Int.emod_lt_of_pos x rp
  split
  · rename_i z
    rw [z, Int.zero_add] at e
    rw [← e, ← Int.mul_neg, Int.mul_emod_right]
  · rename_i z
    have e2 : -x = (b - x % b) + b * (-(x / b) - 1) := by grind
    rw [e2, Int.add_mul_emod_self_left, Int.emod_eq_of_lt (by omega) (by omega)]
theorem S_neg (h k : Int) (hk : 0 < k) : S (-h) k = -S h k := by
  unfold S
  rw [rb_neg, ra_neg h k hk]
  obtain ⟨a0, a1⟩ := ra_range (h := h) hk
  split
  · rename_i z
    rw [z, TT_zero]
    rfl
  · rename_i z
    exact odd (by omega) a1 (ra_prime hk)
theorem P_neg (h k : Int) (hk : 0 < k) : P (-h) k = (-(P h k).1, (P h k).2) := by
  unfold P low
  rw [S_neg h k hk, rb_neg, Int.neg_gcd, Int.neg_ediv_of_dvd (Int.gcd_dvd_left _ _)]
/-- reciprocity -/
theorem recip2 {a b : Int} (ha : 0 < a) (hb : 0 < b) (g : Int.gcd a b = 1) : a * TT (a % b) b + b * TT (b % a) a = a * a + b * b + 1 - 3 * a * b := by
  rcases Int.lt_trichotomy a b with h | h | h
  · rw [Int.emod_eq_of_lt (by omega) h]
    exact recip ha (by rw [Int.gcd_comm]; exact g) (by omega)
  · subst h
    have e : a = 1 := by
      rw [Int.gcd_self] at g
      omega
    subst e
    decide
  · rw [Int.emod_eq_of_lt (show 0 ≤ b by omega) h]
    have z := recip hb (by exact g) (show 0 ≤ a by omega)
    grind
theorem S_prime {a b : Int} (hb : 0 < b) (g : Int.gcd a b = 1) : S a b = TT (a % b) b ∧ rb a b = b := by
  have e : rb a b = b := by
    unfold rb
    rw [g]
    exact Int.ediv_one b
  refine ⟨?_, e⟩
  unfold S ra
  rw [e, g]
  show TT (a / 1 % b) b = _
  rw [Int.ediv_one]
theorem low_mul {p q : Int} (hq : 0 < q) : (Int.gcd p q : Int) * (low p q).1 = p ∧ (Int.gcd p q : Int) * (low p q).2 = q := ⟨Int.mul_ediv_cancel' (Int.gcd_dvd_left p q), Int.mul_ediv_cancel' (Int.gcd_dvd_right p q)⟩
theorem both {a b : Int} (ha : 0 < a) (hb : 0 < b) (g : Int.gcd a b = 1) :
    12 * a * b * ((P a b).1 * (P b a).2 + (P b a).1 * (P a b).2) = (P a b).2 * (P b a).2 * (a * a + b * b + 1 - 3 * a * b) := by
  obtain ⟨s1, r1⟩ := S_prime hb g
  obtain ⟨s2, r2⟩ := S_prime ha (by rw [Int.gcd_comm]; exact g)
  have rc := recip2 ha hb g
  rw [← s1, ← s2] at rc
  unfold P
  rw [r1, r2]
  obtain ⟨p1, p2⟩ := low_mul (p := S a b) (q := 12 * b) (by omega)
  obtain ⟨p3, p4⟩ := low_mul (p := S b a) (q := 12 * a) (by omega)
  have g1 := gcd_pos (p := S a b) (q := 12 * b) (by omega)
  have g2 := gcd_pos (p := S b a) (q := 12 * a) (by omega)
  generalize (Int.gcd (S a b) (12 * b) : Int) = u at *
  generalize (Int.gcd (S b a) (12 * a) : Int) = v at *
  generalize (low (S a b) (12 * b)).1 = p at *
  generalize (low (S a b) (12 * b)).2 = q at *
  generalize (low (S b a) (12 * a)).1 = r at *
  generalize (low (S b a) (12 * a)).2 = s at *
  have uv : u * v ≠ 0 := Int.mul_ne_zero (by omega) (by omega)
  refine Int.eq_of_mul_eq_mul_left uv ?_
  have l : u * v * (12 * a * b * (p * s + r * q)) = 12 * a * b * ((u * p) * (v * s) + (v * r) * (u * q)) := by grind
  have r' : u * v * (q * s * (a * a + b * b + 1 - 3 * a * b)) = (u * q) * (v * s) * (a * a + b * b + 1 - 3 * a * b) := by grind
  rw [l, r', p1, p2, p3, p4, ← rc]
  grind
end M70
end PartM70b

section PartP70
set_option Elab.async false
set_option linter.all false
set_option maxRecDepth 100000
set_option maxHeartbeats 1000000
namespace Law
open PySem PD
abbrev I (i : Int) : T := .sc (.int i)
theorem fmod_pos {a b : Int} (h : 0 < b) : a.fmod b = a % b := Int.fmod_eq_emod_of_nonneg a (by omega)
theorem fdiv_pos {a b : Int} (h : 0 < b) : a.fdiv b = a / b := Int.fdiv_eq_ediv_of_nonneg a (by omega)
theorem loop_gcd : ∀ (a b : Int), 0 ≤ b → 0 ≤ a → sWh (tCmp (bin (eV 1) (eC (.int 0)) (gII cGt))) (sPar 0 1 (aC (eFz (eV 1)) (aC (bin (eV 0) (eV 1) (gII cMod)) aN))) [some (I a), some (I b)] = .ok (.nx [some (I (Int.gcd a b)), some (I 0)]) := by
  refine M70.turns (P := fun a b => 0 ≤ a → sWh (tCmp (bin (eV 1) (eC (.int 0)) (gII cGt))) (sPar 0 1 (aC (eFz (eV 1)) (aC (bin (eV 0) (eV 1) (gII cMod)) aN))) [some (I a), some (I b)] = .ok (.nx [some (I (Int.gcd a b)), some (I 0)])) (fun u hu => ?_) (fun u l hl ih hu => ?_)
  · rw [wh_stop (by simp; rfl), Int.gcd_zero_right]
    have e : ((u.natAbs : Nat) : Int) = u := by omega
    rw [e]
  · have hl0 : l ≠ 0 := by omega
    rw [wh_step (r1 := [some (I u), some (I l)]) (r2 := [some (I l), some (I (u % l))]) (by simp [hl]) (by simp [frzK, g_mod hl0, fmod_pos hl, isSh]), ih (by omega), M70.gcd_turn]
theorem e_gcd (a b : Int) : ∃ rc, f__law_gcd [I a, I b] = .ok (rc, I (Int.gcd a b)) := by
  refine ⟨[some (I (Int.gcd a b)), some (I 0)], ?_⟩
  have h1 : 0 ≤ iabs a := by unfold iabs; split <;> omega
  have h2 : 0 ≤ iabs b := by unfold iabs; split <;> omega
  have h3 : Int.gcd (iabs a) (iabs b) = Int.gcd a b := by
    unfold Int.gcd
    congr 1
    · unfold iabs; split <;> omega
    · unfold iabs; split <;> omega
  simp [f__law_gcd, runF, c__law_gcd, entry, k1, loop_gcd _ _ h2 h1, h3]
theorem k_gcd (r : PD.Env) (a b : Int) : callK 2 f__law_gcd r [I a, I b] = .ok (r, I (Int.gcd a b)) := callK_sh (e_gcd a b).choose_spec
theorem bd_of {n : Nat} {i : Int} (h1 : -(2 ^ n : Int) < i) (h2 : i < (2 ^ n : Int)) : Bd n i := Bd.mk' h1 h2
theorem bd_le {n : Nat} {i j : Int} [h : Bd n j] (h1 : -j ≤ i) (h2 : i ≤ j) : Bd n i := ⟨by
  have := h.lt
  omega⟩
theorem e_lowest (p q : Int) (hq : 0 < q) [Bd 8000 q] : ∃ rc, f__law_lowest [I p, I q] = .ok (rc, .nd .sh .tup [I (M70.low p q).1, I (M70.low p q).2]) := by
  have g0 := M70.gcd_pos (p := p) hq
  have g1 := M70.gcd_le (p := p) hq
  have : Bd 8000 (Int.gcd p q : Int) := bd_le (j := q) (by omega) g1
  have d1 : divOk p (Int.gcd p q) = true := divOk_bd (by omega) (by decide)
  have d2 : divOk q (Int.gcd p q) = true := divOk_bd (by omega) (by decide)
  have e1 : p.fdiv (Int.gcd p q) = p / (Int.gcd p q : Int) := fdiv_pos g0
  have e2 : q.fdiv (Int.gcd p q) = q / (Int.gcd p q : Int) := fdiv_pos g0
  refine ⟨[some (I p), some (I q), some (I (Int.gcd p q))], ?_⟩
  simp [f__law_lowest, runF, c__law_lowest, entry, k_gcd, g_div d1, g_div d2, e1, e2, kTup, isSh, M70.low]
theorem k_lowest (r : PD.Env) (p q : Int) (hq : 0 < q) [Bd 8000 q] : callK 2 f__law_lowest r [I p, I q] = .ok (r, .nd .sh .tup [I (M70.low p q).1, I (M70.low p q).2]) := callK_sh (e_lowest p q hq).choose_spec
abbrev wC : XT := tCmp (bin (eV 10) (eC (.int 0)) (gII cGt))
abbrev wB : XS := (sSet 11 (bin (eV 9) (eV 10) (gII cDiv))).andThen ((sAug 5 (bin (eV 6) (eV 11) (gMul)) (gII cAdd)).andThen ((sSet 6 (un (eV 6) gNeg)).andThen ((sPar 7 8 (aC (bin (bin (eV 11) (eV 7) (gMul)) (eV 8) (gAdd)) (aC (eFz (eV 7)) (aN)))).andThen (sPar 9 10 (aC (eFz (eV 10)) (aC (bin (eV 9) (bin (eV 11) (eV 10) (gMul)) (gII cSub)) (aN)))))))
theorem loop_turns (h k dv bo re : T) (M : Int) [Bd 3000 M] : ∀ (u l : Int), 0 ≤ l → ∀ (tu : Option T) (to sg la be : Int), lent tu = false → (sg = 1 ∨ sg = -1) → 1 ≤ la → 0 ≤ be → l < u → la * u + be * l ≤ M →
    ∃ la' up tu', sWh wC wB [some h, some k, some dv, some bo, some re, some (I to), some (I sg), some (I la), some (I be), some (I u), some (I l), tu, none] =
      .ok (.nx [some h, some k, some dv, some bo, some re, some (I (to + sg * M70.tot u l)), some (I (sg * M70.sgn u l)), some (I la'), some (I (M70.bb u l * la + M70.cc u l * be)), some (I up), some (I 0), tu', none]) := by
  refine M70.turns (P := fun u l => ∀ (tu : Option T) (to sg la be : Int), lent tu = false → (sg = 1 ∨ sg = -1) → 1 ≤ la → 0 ≤ be → l < u → la * u + be * l ≤ M →
    ∃ la' up tu', sWh wC wB [some h, some k, some dv, some bo, some re, some (I to), some (I sg), some (I la), some (I be), some (I u), some (I l), tu, none] =
      .ok (.nx [some h, some k, some dv, some bo, some re, some (I (to + sg * M70.tot u l)), some (I (sg * M70.sgn u l)), some (I la'), some (I (M70.bb u l * la + M70.cc u l * be)), some (I up), some (I 0), tu', none])) (fun u tu to sg la be ht hs hla hbe hlu hM => ?_) (fun u l hl ih tu to sg la be ht hs hla hbe hlu hM => ?_)
  · refine ⟨la, u, tu, ?_⟩
    rw [wh_stop (by simp; rfl), M70.tot_zero, M70.sgn_zero, M70.bb_zero, M70.cc_zero]
    simp
  · have eu := Int.emod_add_mul_ediv u l
    have m0 : 0 ≤ u % l := Int.emod_nonneg _ (by omega)
    have m1 : u % l < l := Int.emod_lt_of_pos _ hl
    have q0 : 0 ≤ u / l := Int.ediv_nonneg (by omega) (by omega)
    have q1 : 1 ≤ u / l := by
      have := Int.ediv_le_ediv hl (Int.le_of_lt hlu)
      rw [Int.ediv_self (by omega)] at this
      exact this
    have q2 : u / l ≤ l * (u / l) := by
      have := Int.mul_le_mul_of_nonneg_right (show (1 : Int) ≤ l by omega) q0
      rw [Int.one_mul] at this
      exact this
    have lu : u ≤ la * u := by
      have := Int.mul_le_mul_of_nonneg_right hla (show 0 ≤ u by omega)
      rw [Int.one_mul] at this
      exact this
    have bl : 0 ≤ be * l := Int.mul_nonneg hbe (by omega)
    have lau : la ≤ la * u := by
      have := Int.mul_le_mul_of_nonneg_left (show (1 : Int) ≤ u by omega) (show 0 ≤ la by omega)
      rw [Int.mul_one] at this
      exact this
    have b1 : Bd 3000 u := bd_le (j := M) (by omega) (by omega)
    have b2 : Bd 3000 l := bd_le (j := M) (by omega) (by omega)
    have b3 : Bd 3000 (u / l) := bd_le (j := M) (by omega) (by omega)
    have b4 : Bd 3000 la := bd_le (j := M) (by omega) (by omega)
    have b5 : Bd 1 sg := by
      rcases hs with e | e <;> subst e <;> exact ⟨by decide⟩
    have d1 : divOk u l = true := divOk_bd (by omega) (by decide)
    have k1 : mulOk sg (u / l) = true := mulOk_bd (by decide)
    have k2 : mulOk (u / l) la = true := mulOk_bd (by decide)
    have k3 : mulOk (u / l) l = true := mulOk_bd (by decide)
    have e3 : u - u / l * l = u % l := by
      rw [Int.mul_comm]
      omega
    have pq : 0 ≤ u / l * la := Int.mul_nonneg q0 (by omega)
    have pq1 : la ≤ u / l * la := by
      have := Int.mul_le_mul_of_nonneg_right q1 (show 0 ≤ la by omega)
      rw [Int.one_mul] at this
      exact this
    obtain ⟨la', up, tu', e⟩ := ih (some (I (u / l))) (to + sg * (u / l)) (-sg) (u / l * la + be) la rfl (by omega) (by omega) (by omega) (by omega) (by
      have e5 : (u / l * la + be) * l + la * (u % l) = la * u + be * l := by
        rw [Int.add_mul, Int.add_right_comm]
        congr 1
        rw [Int.mul_comm (u / l) la, Int.mul_assoc, ← Int.mul_add, Int.mul_comm (u / l) l, Int.add_comm, eu]
      rw [e5]
      exact hM)
    refine ⟨la', up, tu', ?_⟩
    rw [wh_step (r1 := [some h, some k, some dv, some bo, some re, some (I to), some (I sg), some (I la), some (I be), some (I u), some (I l), tu, none])
      (r2 := [some h, some k, some dv, some bo, some re, some (I (to + sg * (u / l))), some (I (-sg)), some (I (u / l * la + be)), some (I la), some (I l), some (I (u % l)), some (I (u / l)), none])
      (by simp [hl]) (by simp [frzK, g_div d1, fdiv_pos hl, ht, g_mul k1, g_mul k2, g_mul k3, e3, isSh]), e, M70.tot_step hl, M70.sgn_step hl, M70.bb_step hl, M70.cc_step hl]
    have f1 : to + sg * (u / l) + -sg * M70.tot l (u % l) = to + sg * (u / l - M70.tot l (u % l)) := by grind
    have f2 : -sg * M70.sgn l (u % l) = sg * -M70.sgn l (u % l) := by grind
    have f3 : M70.bb l (u % l) * (u / l * la + be) + M70.cc l (u % l) * la = (u / l * M70.bb l (u % l) + M70.cc l (u % l)) * la + M70.bb l (u % l) * be := by grind
    rw [f1, f2, f3]
theorem bd_le' {n : Nat} {i j : Int} (h : Bd n j) (h1 : -j ≤ i) (h2 : i ≤ j) : Bd n i := bd_le h1 h2
theorem bd_mono {m n : Nat} {i : Int} (h : Bd m i) (l : m ≤ n) : Bd n i := ⟨Nat.lt_of_lt_of_le h.lt (Nat.pow_le_pow_right (by decide) l)⟩
theorem S_bd {h k : Int} (hk : 0 < k) [Bd 2000 k] : Bd 5000 (M70.S h k) := by
  have rp := M70.rb_pos (h := h) hk
  have rl := M70.rb_le (h := h) hk
  obtain ⟨a0, a1⟩ := M70.ra_range (h := h) hk
  obtain ⟨t1, t2⟩ := M70.tot_le (M70.rb h k) (M70.ra h k) a0 (by omega)
  obtain ⟨c1, c2, _⟩ := M70.bc_le (M70.rb h k) (M70.ra h k) a0 (by omega)
  have b0 : Bd 2000 (M70.rb h k) := bd_le (j := k) (by omega) rl
  have b1 : Bd 2000 (M70.ra h k) := bd_le (j := M70.rb h k) (by omega) (by omega)
  have b2 : Bd 2001 (M70.tot (M70.rb h k) (M70.ra h k)) := by
    have z : Bd (max 2000 2000 + 1) (M70.rb h k + M70.ra h k) := inferInstance
    exact bd_le' z (by omega) (by omega)
  have b3 : Bd 2000 (M70.bb (M70.rb h k) (M70.ra h k)) := bd_le (j := M70.rb h k) (by omega) (by omega)
  have b4 : Bd 1 (M70.sgn (M70.rb h k) (M70.ra h k)) := by
    rcases M70.sgn_sq (M70.rb h k) (M70.ra h k) a0 with e | e <;> rw [e] <;> exact ⟨by decide⟩
  unfold M70.S M70.TT
  have b5 : Bd 2010 (if M70.sgn (M70.rb h k) (M70.ra h k) = -1 then 3 * M70.rb h k else 0) := by
    split
    · exact bd_mono (inferInstance : Bd _ (3 * M70.rb h k)) (by decide)
    · exact ⟨by simp; exact Nat.two_pow_pos _⟩
  exact bd_mono (inferInstance : Bd _ (M70.tot (M70.rb h k) (M70.ra h k) * M70.rb h k + M70.ra h k - M70.sgn (M70.rb h k) (M70.ra h k) * M70.bb (M70.rb h k) (M70.ra h k) - (if M70.sgn (M70.rb h k) (M70.ra h k) = -1 then 3 * M70.rb h k else 0))) (by decide)
theorem e_sum (h k : Int) (hk : 0 < k) [Bd 2000 k] : ∃ rc, f__sum_by_turns [I h, I k] = .ok (rc, .nd .sh .tup [I (M70.S h k), I (M70.rb h k)]) := by
  have g0 := M70.gcd_pos (p := h) hk
  have g1 := M70.gcd_le (p := h) hk
  have rp := M70.rb_pos (h := h) hk
  have rl := M70.rb_le (h := h) hk
  obtain ⟨a0, a1⟩ := M70.ra_range (h := h) hk
  obtain ⟨t1, t2⟩ := M70.tot_le (M70.rb h k) (M70.ra h k) a0 (by omega)
  obtain ⟨c1, c2, _⟩ := M70.bc_le (M70.rb h k) (M70.ra h k) a0 (by omega)
  have bg : Bd 2000 (Int.gcd h k : Int) := bd_le (j := k) (by omega) g1
  have b0 : Bd 2000 (M70.rb h k) := bd_le (j := k) (by omega) rl
  have b2 : Bd 2001 (M70.tot (M70.rb h k) (M70.ra h k)) := by
    have b1 : Bd 2000 (M70.ra h k) := bd_le (j := M70.rb h k) (by omega) (by omega)
    have z : Bd (max 2000 2000 + 1) (M70.rb h k + M70.ra h k) := inferInstance
    exact bd_le' z (by omega) (by omega)
  have b3 : Bd 2000 (M70.bb (M70.rb h k) (M70.ra h k)) := bd_le (j := M70.rb h k) (by omega) (by omega)
  have hs := M70.sgn_sq (M70.rb h k) (M70.ra h k) a0
  have b4 : Bd 1 (M70.sgn (M70.rb h k) (M70.ra h k)) := by
    rcases hs with e | e <;> rw [e] <;> exact ⟨by decide⟩
  have d1 : divOk k (Int.gcd h k) = true := divOk_bd (by omega) (by decide)
  have d2 : divOk h (Int.gcd h k) = true := divOk_bd (by omega) (by decide)
  have e1 : k.fdiv (Int.gcd h k) = M70.rb h k := fdiv_pos g0
  have e2 : h.fdiv (Int.gcd h k) = h / (Int.gcd h k : Int) := fdiv_pos g0
  have e3 : (h / (Int.gcd h k : Int)).fmod (M70.rb h k) = M70.ra h k := fmod_pos rp
  have r0 : M70.rb h k ≠ 0 := by omega
  have B3 : Bd 3000 (M70.rb h k) := bd_mono b0 (by decide)
  obtain ⟨la, up, tu, el⟩ := loop_turns (I h) (I k) (I (Int.gcd h k)) (I (M70.rb h k)) (I (M70.ra h k)) (M70.rb h k) (M70.rb h k) (M70.ra h k) a0 none 0 1 1 0 rfl (.inl rfl) (by decide) (by decide) a1 (by omega)
  have m1 : mulOk (M70.tot (M70.rb h k) (M70.ra h k)) (M70.rb h k) = true := mulOk_bd (by decide)
  have m2 : mulOk (M70.sgn (M70.rb h k) (M70.ra h k)) (M70.bb (M70.rb h k) (M70.ra h k)) = true := mulOk_bd (by decide)
  have m3 : mulOk 3 (M70.rb h k) = true := mulOk_bd (by decide)
  have en : ((Nat.gcd h.natAbs k.natAbs : Nat) : Int) = (Int.gcd h k : Int) := rfl
  rw [Int.zero_add, Int.one_mul, Int.one_mul, Int.mul_one, Int.mul_zero, Int.add_zero] at el
  rcases hs with hs | hs
  · rw [hs] at el m2
    simp [f__sum_by_turns, runF, c__sum_by_turns, entry, k2, en, g_div d1, g_div d2, e1, e2, g_mod r0, e3, kTup, isSh, gTs, frzK, el, g_mul m1, g_mul m2, testK, M70.S, M70.TT, hs]
  · rw [hs] at el m2
    simp [f__sum_by_turns, runF, c__sum_by_turns, entry, k2, en, g_div d1, g_div d2, e1, e2, g_mod r0, e3, kTup, isSh, gTs, frzK, el, g_mul m1, g_mul m2, g_mul m3, testK, M70.S, M70.TT, hs]
theorem k_sum (r : PD.Env) (h k : Int) (hk : 0 < k) [Bd 2000 k] : callK 2 f__sum_by_turns r [I h, I k] = .ok (r, .nd .sh .tup [I (M70.S h k), I (M70.rb h k)]) := callK_sh (e_sum h k hk).choose_spec
theorem e_sign (x : Int) (h : 0 < x) : ∃ rc, f_sign_of [I x] = .ok (rc, I 1) := by
  have n0 : ¬ x = 0 := by omega
  simp [f_sign_of, runF, c_sign_of, entry, testK, n0, h]
theorem k_sign (r : PD.Env) (x : Int) (h : 0 < x) : callK 1 f_sign_of r [I x] = .ok (r, I 1) := callK_sh (e_sign x h).choose_spec
theorem e_frac (p q : Int) (hq : 0 < q) [Bd 8000 q] : ∃ rr, f_Frac_init [.nd .ln (.ins 6) [], I p, I q] = .ok (some (.nd .ln (.ins 6) [I (M70.low p q).1, I (M70.low p q).2]) :: rr, .sc .non) := by
  have g0 := M70.gcd_pos (p := p) hq
  have g1 := M70.gcd_le (p := p) hq
  have : Bd 8000 (Int.gcd p q : Int) := bd_le (j := q) (by omega) g1
  have d1 : divOk p (Int.gcd p q) = true := divOk_bd (by omega) (by decide)
  have d2 : divOk q (Int.gcd p q) = true := divOk_bd (by omega) (by decide)
  have e1 : p.fdiv (Int.gcd p q) = p / (Int.gcd p q : Int) := fdiv_pos g0
  have e2 : q.fdiv (Int.gcd p q) = q / (Int.gcd p q : Int) := fdiv_pos g0
  have en : ((Nat.gcd p.natAbs q.natAbs : Nat) : Int) = (Int.gcd p q : Int) := rfl
  have n0 : ¬ q = 0 := by omega
  have m1 : mulOk (Int.gcd p q) 1 = true := mulOk_bd (by decide)
  simp [f_Frac_init, runF, c_Frac_init, entry, testK, n0, k2, en, k_sign _ q hq, g_mul m1, g_div d1, g_div d2, e1, e2, frzK, wrf, List.lookup, M70.low]
theorem e_teeth (h k : Int) (hk : 0 < k) [Bd 2000 k] : ∃ rc, f_teeth [I h, I k] = .ok (rc, .nd .sh (.ins 6) [I (M70.P h k).1, I (M70.P h k).2]) := by
  have rp := M70.rb_pos (h := h) hk
  have rl := M70.rb_le (h := h) hk
  have b0 : Bd 2000 (M70.rb h k) := bd_le (j := k) (by omega) rl
  have n1 : ¬ k < 1 := by omega
  have m1 : mulOk 12 (M70.rb h k) = true := mulOk_bd (by decide)
  have q1 : 0 < 12 * M70.rb h k := by omega
  have b1 : Bd 8000 (12 * M70.rb h k) := bd_mono (inferInstance : Bd _ (12 * M70.rb h k)) (by decide)
  obtain ⟨rr, ef⟩ := e_frac (M70.S h k) (12 * M70.rb h k) q1
  have em : ∀ r, makeK 6 3 f_Frac_init r [I (M70.S h k), I (12 * M70.rb h k)] = .ok (r, .nd .sh (.ins 6) [I (M70.low (M70.S h k) (12 * M70.rb h k)).1, I (M70.low (M70.S h k) (12 * M70.rb h k)).2]) := fun r => makeK_sh ef
  simp [f_teeth, runF, c_teeth, entry, testK, n1, k_sum _ h k hk, gTs, frzK, g_mul m1, em, M70.P, isSh]
theorem k_teeth (r : PD.Env) (h k : Int) (hk : 0 < k) [Bd 2000 k] : callK 2 f_teeth r [I h, I k] = .ok (r, .nd .sh (.ins 6) [I (M70.P h k).1, I (M70.P h k).2]) := callK_sh (e_teeth h k hk).choose_spec
theorem k_teeth_err (r : PD.Env) (h k : Int) (hk : k < 1) : callK 2 f_teeth r [I h, I k] = .err r 2 [I k] := by
  have e : ∃ rc, f_teeth [I h, I k] = .err rc 2 [I k] := by
    simp [f_teeth, runF, c_teeth, entry, testK, hk, isSh]
  exact callK_err e.choose_spec
theorem TT_bd {a b : Int} (a0 : 0 ≤ a) (a1 : a < b) (hb : Bd 2000 b) : Bd 5000 (M70.TT a b) := by
  obtain ⟨t1, t2⟩ := M70.tot_le b a a0 (by omega)
  obtain ⟨c1, c2, _⟩ := M70.bc_le b a a0 (by omega)
  have b1 : Bd 2000 a := bd_le (j := b) (by omega) (by omega)
  have b2 : Bd 2001 (M70.tot b a) := by
    have z : Bd (max 2000 2000 + 1) (b + a) := inferInstance
    exact bd_le' z (by omega) (by omega)
  have b3 : Bd 2000 (M70.bb b a) := bd_le (j := b) (by omega) (by omega)
  have b4 : Bd 1 (M70.sgn b a) := by
    rcases M70.sgn_sq b a a0 with e | e <;> rw [e] <;> exact ⟨by decide⟩
  unfold M70.TT
  have b5 : Bd 2010 (if M70.sgn b a = -1 then 3 * b else 0) := by
    split
    · exact bd_mono (inferInstance : Bd _ (3 * b)) (by decide)
    · exact bd_mono (inferInstance : Bd _ (0 : Int)) (by decide)
  exact bd_mono (inferInstance : Bd _ (M70.tot b a * b + a - M70.sgn b a * M70.bb b a - (if M70.sgn b a = -1 then 3 * b else 0))) (by decide)
abbrev tp (q : Int × Int) : T := .nd .sh .tup [I q.1, I q.2]
abbrev xC : XT := tCmp (bin (eV 3) (eC (.int 1)) (gII cGt))
abbrev xB : XS := (sExpr (eMut 6 (aC (onA (aC (eFz (eV 4)) (aC (eFz (eV 3)) (aN))) kTup) (aN)) mAppend)).andThen (sPar 4 3 (aC (bin (eV 3) (eV 4) (gII cMod)) (aC (eFz (eV 4)) (aN))))
abbrev xG : XG := gU [gN 4, gN 3]
abbrev xF : XS := sSet 7 (bin (bin (bin (bin (bin (bin (eV 4) (eV 4) (gMul)) (bin (eV 3) (eV 3) (gMul)) (gAdd)) (eC (.int 1)) (gAdd)) (bin (bin (eC (.int 3)) (eV 4) (gMul)) (eV 3) (gMul)) (gII cSub)) (bin (eV 3) (eV 7) (gMul)) (gII cSub)) (eV 4) (gII cDiv))
theorem loop_pairs (h k g bo : T) (od : Option T) (hod : lent od = false) : ∀ (b a : Int), 0 ≤ a → a < b → Int.gcd b a = 1 → Bd 2000 b → ∀ (n : Nat) (xs : List T), a * b < (2 ^ n : Nat) → xs.length + n ≤ 100000 →
    ∃ L : List (Int × Int), sWh xC xB [some h, some k, some g, some (I b), some (I a), some bo, some (.nd .ow .lst xs), od] = .ok (.nx [some h, some k, some g, some (I 1), some (I 0), some bo, some (.nd .ow .lst (xs ++ L.map tp)), od]) ∧
      ∀ (x3 x4 : Int) (pl : T) (rest : List T), ∃ y3 y4, forK xG xF ((L.map tp).reverse ++ rest) [some h, some k, some g, some (I x3), some (I x4), some bo, some pl, some (I 0)] = forK xG xF rest [some h, some k, some g, some (I y3), some (I y4), some bo, some pl, some (I (M70.TT a b))] := by
  refine M70.turns (P := fun b a => a < b → Int.gcd b a = 1 → Bd 2000 b → ∀ (n : Nat) (xs : List T), a * b < (2 ^ n : Nat) → xs.length + n ≤ 100000 →
    ∃ L : List (Int × Int), sWh xC xB [some h, some k, some g, some (I b), some (I a), some bo, some (.nd .ow .lst xs), od] = .ok (.nx [some h, some k, some g, some (I 1), some (I 0), some bo, some (.nd .ow .lst (xs ++ L.map tp)), od]) ∧
      ∀ (x3 x4 : Int) (pl : T) (rest : List T), ∃ y3 y4, forK xG xF ((L.map tp).reverse ++ rest) [some h, some k, some g, some (I x3), some (I x4), some bo, some pl, some (I 0)] = forK xG xF rest [some h, some k, some g, some (I y3), some (I y4), some bo, some pl, some (I (M70.TT a b))])
    (fun u hu gu bu n xs hn hx => ?_) (fun u l hl ih hu gu bu n xs hn hx => ?_)
  · have e : u = 1 := by
      rw [Int.gcd_zero_right] at gu
      omega
    subst e
    refine ⟨[], ?_, fun x3 x4 pl rest => ⟨x3, x4, ?_⟩⟩
    · rw [wh_stop (by simp; rfl)]
      simp
    · rw [M70.TT_zero]
      simp
  · have m0 : 0 ≤ u % l := Int.emod_nonneg _ (by omega)
    have m1 : u % l < l := Int.emod_lt_of_pos _ hl
    have eu := Int.emod_add_mul_ediv u l
    have q1 : 1 ≤ u / l := by
      have := Int.ediv_le_ediv hl (Int.le_of_lt hu)
      rw [Int.ediv_self (by omega)] at this
      exact this
    have q2 : l ≤ l * (u / l) := by
      have := Int.mul_le_mul_of_nonneg_left q1 (show 0 ≤ l by omega)
      rw [Int.mul_one] at this
      exact this
    have bl : Bd 2000 l := bd_le (j := u) (by omega) (by omega)
    have pos : 0 < l * u := Int.mul_pos hl (by omega)
    obtain ⟨n', rfl⟩ : ∃ n', n = n' + 1 := by
      cases n with
      | zero => exact absurd hn (by simp; omega)
      | succ n => exact ⟨n, rfl⟩
    have half : u % l * l < (2 ^ n' : Nat) := by
      have h2 : 2 * (u % l * l) < l * u := by
        have z : (2 * (u % l)) * l < u * l := Int.mul_lt_mul_of_pos_right (by omega) hl
        rw [Int.mul_assoc, Int.mul_comm u l] at z
        exact z
      rw [Nat.pow_succ] at hn
      omega
    have gl : Int.gcd l (u % l) = 1 := by rw [M70.gcd_turn]; exact gu
    obtain ⟨L, e1, e2⟩ := ih m1 gl bl n' (xs ++ [tp (l, u)]) half (by simp; omega)
    refine ⟨(l, u) :: L, ?_, fun x3 x4 pl rest => ?_⟩
    · have l0 : l ≠ 0 := by omega
      have u1 : 1 < u := by omega
      have xl : xs.length ≤ 100000 := by omega
      rw [wh_step (r1 := [some h, some k, some g, some (I u), some (I l), some bo, some (.nd .ow .lst xs), od]) (r2 := [some h, some k, some g, some (I l), some (I (u % l)), some bo, some (.nd .ow .lst (xs ++ [tp (l, u)])), od])
        (by simp [u1]) (by simp [frzK, kTup, isSh, mAppend, xl, wrf, g_mod l0, fmod_pos hl]), e1]
      simp
    · obtain ⟨y3, y4, e3⟩ := e2 x3 x4 pl (tp (l, u) :: rest)
      have bt := TT_bd m0 m1 bl
      have k1 : mulOk l l = true := mulOk_bd (by decide)
      have k2 : mulOk u u = true := mulOk_bd (by decide)
      have k3 : mulOk 3 l = true := mulOk_bd (by decide)
      have k4 : mulOk (3 * l) u = true := mulOk_bd (by decide)
      have k5 : mulOk u (M70.TT (u % l) l) = true := mulOk_bd (by decide)
      have d1 : ∀ x, divOk x l = true := fun x => divOk_bd (by omega) (by decide)
      have rc := M70.recip hl gu (by omega)
      have ev : (l * l + u * u + 1 - 3 * l * u - u * M70.TT (u % l) l).fdiv l = M70.TT l u := by
        have z : l * l + u * u + 1 - 3 * l * u - u * M70.TT (u % l) l = l * M70.TT l u := by omega
        rw [z, fdiv_pos hl]
        exact Int.mul_ediv_cancel_left _ (by omega)
      refine ⟨u, l, ?_⟩
      rw [List.map_cons, List.reverse_cons, List.append_assoc]
      refine e3.trans ?_
      simp [forK, gTs, loopK, g_mul k1, g_mul k2, g_mul k3, g_mul k4, g_mul k5, g_div (d1 _), ev]
theorem e_exch (h k : Int) (hk : 0 < k) [Bd 2000 k] : ∃ rc, f__law_exchanged [I h, I k] = .ok (rc, .nd .sh .tup [I (M70.P h k).1, I (M70.P h k).2]) := by
  have g0 := M70.gcd_pos (p := h) hk
  have g1 := M70.gcd_le (p := h) hk
  have rp := M70.rb_pos (h := h) hk
  have rl := M70.rb_le (h := h) hk
  obtain ⟨a0, a1⟩ := M70.ra_range (h := h) hk
  have bg : Bd 2000 (Int.gcd h k : Int) := bd_le (j := k) (by omega) g1
  have b0 : Bd 2000 (M70.rb h k) := bd_le (j := k) (by omega) rl
  have b1 : Bd 2000 (M70.ra h k) := bd_le (j := M70.rb h k) (by omega) (by omega)
  have d1 : divOk k (Int.gcd h k) = true := divOk_bd (by omega) (by decide)
  have d2 : divOk h (Int.gcd h k) = true := divOk_bd (by omega) (by decide)
  have e1 : k.fdiv (Int.gcd h k) = M70.rb h k := fdiv_pos g0
  have e2 : h.fdiv (Int.gcd h k) = h / (Int.gcd h k : Int) := fdiv_pos g0
  have e3 : (h / (Int.gcd h k : Int)).fmod (M70.rb h k) = M70.ra h k := fmod_pos rp
  have r0 : M70.rb h k ≠ 0 := by omega
  have m1 : mulOk 12 (M70.rb h k) = true := mulOk_bd (by decide)
  have q1 : 0 < 12 * M70.rb h k := by omega
  have bq : Bd 8000 (12 * M70.rb h k) := bd_mono (inferInstance : Bd _ (12 * M70.rb h k)) (by decide)
  have hn : M70.ra h k * M70.rb h k < (2 ^ 4000 : Nat) := by
    have z : Bd (2000 + 2000) (M70.ra h k * M70.rb h k) := inferInstance
    have z2 := z.lt
    generalize M70.ra h k * M70.rb h k = w at *
    generalize (2 : Nat) ^ 4000 = m at *
    have z3 : w.natAbs < m := z2
    omega
  obtain ⟨L, w1, w2⟩ := loop_pairs (I h) (I k) (I (Int.gcd h k)) (I (12 * M70.rb h k)) none rfl (M70.rb h k) (M70.ra h k) a0 a1 (M70.ra_prime hk) b0 4000 [] hn (by decide)
  obtain ⟨y3, y4, w3⟩ := w2 1 0 (.nd .ow .lst (L.map tp)) []
  rw [List.append_nil] at w3
  rw [List.nil_append] at w1
  have w4 := k_lowest [some (I h), some (I k), some (I (Int.gcd h k)), some (I y3), some (I y4), some (I (12 * M70.rb h k)), some (.nd .ow .lst (L.map tp)), some (I (M70.TT (M70.ra h k) (M70.rb h k)))] (M70.S h k) (12 * M70.rb h k) q1
  unfold M70.S at w4
  simp [f__law_exchanged, runF, c__law_exchanged, entry, k_gcd, g_div d1, g_div d2, e1, e2, g_mod r0, e3, g_mul m1, kLst, w1, gRev, pk, w3, forK, w4, M70.P, M70.S]
theorem k_exch (r : PD.Env) (h k : Int) (hk : 0 < k) [Bd 2000 k] : callK 2 f__law_exchanged r [I h, I k] = .ok (r, .nd .sh .tup [I (M70.P h k).1, I (M70.P h k).2]) := callK_sh (e_exch h k hk).choose_spec
abbrev dF : XS := (sSet 4 (bin (bin (eV 0) (eV 3) (gMul)) (eV 1) (gII cMod))).andThen (sIf (tCmp (bin (eV 4) (eC (.int 0)) (gNe))) (sSet 2 (bin (eV 2) (bin (bin (bin (eC (.int 2)) (eV 3) (gMul)) (eV 1) (gII cSub)) (bin (bin (eC (.int 2)) (eV 4) (gMul)) (eV 1) (gII cSub)) (gMul)) (gAdd))) (sNx))
theorem loop_def (h k : Int) (hk : 0 < k) (h60 : k ≤ 60) [Bd 3000 h] : ∀ (js : List Nat), (∀ j ∈ js, j < 60) → ∀ (t : Int) (o3 o4 : Option T), lent o3 = false → lent o4 = false →
    ∃ p3 p4, lent p3 = false ∧ lent p4 = false ∧ forK (gN 3) dF (js.map fun (j : Nat) => I (1 + (j : Int))) [some (I h), some (I k), some (I t), o3, o4] = .ok (.nx [some (I h), some (I k), some (I (js.foldl (fun t (j : Nat) => M70.step h k t (1 + (j : Int))) t)), p3, p4])
  | [], _, t, o3, o4, l3, l4 => ⟨o3, o4, l3, l4, rfl⟩
  | j :: js, hj, t, o3, o4, l3, l4 => by
    have hj0 := hj j List.mem_cons_self
    have ih := fun t o3 o4 => loop_def h k hk h60 js (fun x hx => hj x (List.mem_cons_of_mem _ hx)) t o3 o4
    have k0 : k ≠ 0 := by omega
    have m0 := Int.emod_nonneg (h * (1 + (j : Int))) k0
    have m1 := Int.emod_lt_of_pos (h * (1 + (j : Int))) hk
    have b1 : Bd 7 (1 + (j : Int)) := bd_of (by simp; omega) (by simp; omega)
    have b2 : Bd 7 (h * (1 + (j : Int)) % k) := bd_of (by simp; omega) (by simp; omega)
    have b3 : Bd 7 k := bd_of (by simp; omega) (by simp; omega)
    have k1 : mulOk h (1 + (j : Int)) = true := mulOk_bd (by decide)
    have k2 : mulOk 2 (1 + (j : Int)) = true := mulOk_bd (by decide)
    have k3 : mulOk 2 (h * (1 + (j : Int)) % k) = true := mulOk_bd (by decide)
    have k4 : mulOk (2 * (1 + (j : Int)) - k) (2 * (h * (1 + (j : Int)) % k) - k) = true := mulOk_bd (by decide)
    by_cases z : h * (1 + (j : Int)) % k = 0
    · obtain ⟨p3, p4, q3, q4, e⟩ := ih t (some (I (1 + (j : Int)))) (some (I (h * (1 + (j : Int)) % k))) rfl rfl
      refine ⟨p3, p4, q3, q4, ?_⟩
      rw [List.map_cons, List.foldl_cons]
      have es : M70.step h k t (1 + (j : Int)) = t := by unfold M70.step; rw [if_pos z]
      rw [es, ← e]
      simp [forK, l3, l4, g_mul k1, g_mod k0, fmod_pos hk, z, testK, loopK]
    · obtain ⟨p3, p4, q3, q4, e⟩ := ih (t + (2 * (1 + (j : Int)) - k) * (2 * (h * (1 + (j : Int)) % k) - k)) (some (I (1 + (j : Int)))) (some (I (h * (1 + (j : Int)) % k))) rfl rfl
      refine ⟨p3, p4, q3, q4, ?_⟩
      rw [List.map_cons, List.foldl_cons]
      have es : M70.step h k t (1 + (j : Int)) = t + (2 * (1 + (j : Int)) - k) * (2 * (h * (1 + (j : Int)) % k) - k) := by unfold M70.step; rw [if_neg z]
      rw [es, ← e]
      simp [forK, l3, l4, g_mul k1, g_mul k2, g_mul k3, g_mul k4, g_mod k0, fmod_pos hk, z, testK, loopK]
theorem e_def (h k : Int) (hk : 0 < k) (h60 : k ≤ 60) [Bd 3000 h] : ∃ rc, f__law_defined [I h, I k] = .ok (rc, .nd .sh .tup [I (M70.P h k).1, I (M70.P h k).2]) := by
  obtain ⟨p3, p4, q3, q4, e⟩ := loop_def h k hk h60 (List.range (k - 1).toNat) (fun j hj => by
    have := List.mem_range.mp hj
    omega) 0 none none rfl rfl
  have b3 : Bd 7 k := bd_of (by simp; omega) (by simp; omega)
  have k1 : mulOk 4 k = true := mulOk_bd (by decide)
  have k2 : mulOk (4 * k) k = true := mulOk_bd (by decide)
  have bk : Bd 8000 (4 * k * k) := bd_mono (inferInstance : Bd _ (4 * k * k)) (by decide)
  have kp : 0 < 4 * k * k := Int.mul_pos (by omega) hk
  have el := k_lowest [some (I h), some (I k), some (I (M70.D h k)), p3, p4] (M70.D h k) (4 * k * k) kp
  rw [M70.small hk h60] at el
  have er : rngT 1 k = (List.range (k - 1).toNat).map fun (j : Nat) => I (1 + (j : Int)) := rfl
  have i1 : inR 1 = true := rfl
  have i2 : inR k = true := by
    unfold inR
    simp
    omega
  have e2 : forK (gN 3) dF (rngT 1 k) [some (I h), some (I k), some (I 0), none, none] = .ok (.nx [some (I h), some (I k), some (I (M70.D h k)), p3, p4]) := e
  simp [f__law_defined, runF, c__law_defined, entry, i1, i2, e2, g_mul k1, g_mul k2, el]
theorem k_def (r : PD.Env) (h k : Int) (hk : 0 < k) (h60 : k ≤ 60) [Bd 3000 h] : callK 2 f__law_defined r [I h, I k] = .ok (r, .nd .sh .tup [I (M70.P h k).1, I (M70.P h k).2]) := callK_sh (e_def h k hk h60).choose_spec
theorem tg_beq (a b : Tg) : (a == b) = decide (a = b) := rfl
theorem k_whole (r : PD.Env) (x : Int) : callK 1 f__law_whole r [I x] = .ok (r, .sc (.bl true)) := by
  have e : ∃ rc, f__law_whole [I x] = .ok (rc, .sc (.bl true)) := by
    simp [f__law_whole, runF, c__law_whole, entry, isiK, tgOf, pk, List.lookup, tg_beq, truK]
  exact callK_sh e.choose_spec
theorem k_isfrac (r : PD.Env) (x y p q : Int) : callK 3 f__law_is_frac r [.nd .sh (.ins 6) [I x, I y], I p, I q] = .ok (r, .sc (.bl (decide (x = p) && decide (y = q)))) := by
  have e : ∃ rc, f__law_is_frac [.nd .sh (.ins 6) [I x, I y], I p, I q] = .ok (rc, .sc (.bl (decide (x = p) && decide (y = q)))) := by
    by_cases h : x = p
    · simp [f__law_is_frac, runF, c__law_is_frac, entry, isiK, tgOf, pk, List.lookup, tg_beq, truK, fldK, k_whole, testK, h]
    · simp [f__law_is_frac, runF, c__law_is_frac, entry, isiK, tgOf, pk, List.lookup, tg_beq, truK, fldK, k_whole, testK, h]
  exact callK_sh e.choose_spec
theorem k_refused (r : PD.Env) (h k : Int) (hk : k < 1) : callK 2 f__law_refused r [I h, I k] = .ok (r, .sc (.bl true)) := by
  have e : ∃ rc, f__law_refused [I h, I k] = .ok (rc, .sc (.bl true)) := by
    simp [f__law_refused, runF, c__law_refused, entry, k_teeth_err _ h k hk, runHd, List.lookup, tg_beq, truK, pk, testK, k_whole, clr]
  exact callK_sh e.choose_spec
theorem ne_tup (r : PD.Env) (a b : Int) : gNe r (.nd .sh .tup [I a, I b]) (.nd .sh .tup [I a, I b]) = .ok (r, .sc (.bl false)) := by
  have e : eqT r (.nd .sh .tup [I a, I b]) (.nd .sh .tup [I a, I b]) = some true := by
    have h1 : SeqAt.shaped (PyData.tuple [PyData.int a, PyData.int b]) = true := by first | rfl | decide +kernel | simp [SeqAt.shaped, PyData.canLay0, PyData.depth]
    have h2 : PyData.eqv (PyData.tuple [PyData.int a, PyData.int b]) (PyData.tuple [PyData.int a, PyData.int b]) = true := by simp [PyData.eqv, PyData.eqvAll]
    simp [eqT, pk, dat, datL, h1, h2]
  unfold gNe
  rw [e]
  rfl
theorem P_bd {h k : Int} (hk : 0 < k) [Bd 2000 k] : Bd 5000 (M70.P h k).1 ∧ Bd 2004 (M70.P h k).2 := by
  have rp := M70.rb_pos (h := h) hk
  have rl := M70.rb_le (h := h) hk
  have b0 : Bd 2000 (M70.rb h k) := bd_le (j := k) (by omega) rl
  have bs : Bd 5000 (M70.S h k) := S_bd hk
  have bq : Bd 2004 (12 * M70.rb h k) := bd_mono (inferInstance : Bd _ (12 * M70.rb h k)) (by decide)
  obtain ⟨e1, e2⟩ := M70.low_mul (p := M70.S h k) (q := 12 * M70.rb h k) (by omega)
  have g := M70.gcd_pos (p := M70.S h k) (q := 12 * M70.rb h k) (by omega)
  have key : ∀ {n : Nat} (u x y : Int), 0 < u → u * x = y → Bd n y → Bd n x := fun {n} u x y hu e b => ⟨by
    have z := b.lt
    rw [← e, Int.natAbs_mul] at z
    exact Nat.lt_of_le_of_lt (Nat.le_mul_of_pos_left _ (by omega)) z⟩
  exact ⟨key _ _ _ g e1 bs, key _ _ _ g e2 bq⟩
theorem k_right (r : PD.Env) (h k : Int) (hk : 0 < k) [Bd 2000 k] [Bd 3000 h] : callK 2 f__law_right r [I h, I k] = .ok (r, .sc (.bl true)) := by
  have e : ∃ rc, f__law_right [I h, I k] = .ok (rc, .sc (.bl true)) := by
    by_cases z : k ≤ 60
    · simp [f__law_right, runF, c__law_right, entry, k_exch _ h k hk, gTs, z, k_def _ h k hk z, kTup, isSh, frzK, ne_tup, testK, k_teeth _ h k hk, k_isfrac]
    · simp [f__law_right, runF, c__law_right, entry, k_exch _ h k hk, gTs, z, kTup, isSh, frzK, testK, k_teeth _ h k hk, k_isfrac]
  exact callK_sh e.choose_spec
theorem k_both (r : PD.Env) (h k : Int) (hh : 0 < h) (hk : 0 < k) [Bd 2000 k] [Bd 2000 h] : callK 2 f__law_both r [I h, I k] = .ok (r, .sc (.bl true)) := by
  have el := fun r => @k_lowest r h k hk (bd_mono (inferInstance : Bd 2000 k) (by decide))
  obtain ⟨e1, e2, gp⟩ := M70.split_gcd (h := h) hk
  have g := M70.gcd_pos (p := h) hk
  have ea : (M70.low h k).1 = h / (Int.gcd h k : Int) := rfl
  have eb : (M70.low h k).2 = M70.rb h k := rfl
  rw [ea, eb] at el
  have rp := M70.rb_pos (h := h) hk
  have rl := M70.rb_le (h := h) hk
  generalize h / (Int.gcd h k : Int) = a at *
  generalize M70.rb h k = b at *
  have ap : 0 < a := by
    rcases Int.lt_or_le 0 a with q | q
    · exact q
    · have := Int.mul_nonneg (Int.le_of_lt g) (show (0 : Int) ≤ -a by omega)
      rw [Int.mul_neg, ← e1] at this
      omega
  have al : a ≤ h := by
    have := Int.mul_le_mul_of_nonneg_right (show (1 : Int) ≤ (Int.gcd h k : Int) by omega) (show 0 ≤ a by omega)
    rw [Int.one_mul, ← e1] at this
    exact this
  have ba : Bd 2000 a := bd_le (j := h) (by omega) al
  have bb : Bd 2000 b := bd_le (j := k) (by omega) rl
  have fin := M70.both ap rp gp
  obtain ⟨bp, bq⟩ := P_bd (h := a) rp
  obtain ⟨br, bs⟩ := P_bd (h := b) ap
  have m1 : mulOk a a = true := mulOk_bd (by decide)
  have m2 : mulOk b b = true := mulOk_bd (by decide)
  have m3 : mulOk 3 a = true := mulOk_bd (by decide)
  have m4 : mulOk (3 * a) b = true := mulOk_bd (by decide)
  have m5 : mulOk 12 a = true := mulOk_bd (by decide)
  have m6 : mulOk (12 * a) b = true := mulOk_bd (by decide)
  have m7 : mulOk (M70.P a b).1 (M70.P b a).2 = true := mulOk_bd (by decide)
  have m8 : mulOk (M70.P b a).1 (M70.P a b).2 = true := mulOk_bd (by decide)
  have m9 : mulOk (12 * a * b) ((M70.P a b).1 * (M70.P b a).2 + (M70.P b a).1 * (M70.P a b).2) = true := mulOk_bd (by decide)
  have m10 : mulOk (M70.P a b).2 (M70.P b a).2 = true := mulOk_bd (by decide)
  have m11 : mulOk ((M70.P a b).2 * (M70.P b a).2) (a * a + b * b + 1 - 3 * a * b) = true := mulOk_bd (by decide)
  have e : ∃ rc, f__law_both [I h, I k] = .ok (rc, .sc (.bl true)) := by
    simp [f__law_both, runF, c__law_both, entry, el, gTs, isSh, k_teeth _ a b rp, k_teeth _ b a ap, k_exch _ a b rp, k_exch _ b a ap, k_isfrac, testK, truK, pk, g_mul m1, g_mul m2, g_mul m3, g_mul m4, g_mul m5, g_mul m6, g_mul m7, g_mul m8, g_mul m9, g_mul m10, g_mul m11, fin]
  exact callK_sh e.choose_spec
theorem k_pair (r : PD.Env) (h k j g : Int) (hk : 0 < k) (hg : 0 < g) (hg2 : g ≤ 9) (hj1 : -3 ≤ j) (hj2 : j ≤ 3) (bk0 : Bd 1900 k) (bh0 : Bd 1900 h) : callK 4 f__law_pair r [I h, I k, I j, I g] = .ok (r, .sc (.bl true)) := by
  have bg : Bd 4 g := bd_of (by simp; omega) (by simp; omega)
  have bj : Bd 2 j := bd_of (by simp; omega) (by simp; omega)
  have gk : 0 < g * k := Int.mul_pos hg hk
  have m1 : mulOk g h = true := mulOk_bd (by decide)
  have m2 : mulOk g k = true := mulOk_bd (by decide)
  have m3 : mulOk j k = true := mulOk_bd (by decide)
  have egk : Bd 2000 (g * k) := bd_mono (Bd.mul (i := g) (j := k)) (by decide)
  have egh : Bd 3000 (g * h) := bd_mono (Bd.mul (i := g) (j := h)) (by decide)
  have ek : Bd 2000 k := bd_mono bk0 (by decide)
  have R1 := fun r => @k_right r h k hk ek (bd_mono bh0 (by decide))
  have R2 := fun r => @k_right r (g * h) (g * k) gk egk egh
  have X1 := fun r => @k_exch r h k hk ek
  have T1 := fun r => @k_teeth r (h + j * k) k hk ek
  have T2 := fun r => @k_teeth r (g * h) (g * k) gk egk
  have T3 := fun r => @k_teeth r (-h) k hk ek
  have e : ∃ rc, f__law_pair [I h, I k, I j, I g] = .ok (rc, .sc (.bl true)) := by
    by_cases z : h < 1
    · simp [f__law_pair, runF, c__law_pair, entry, X1, gTs, isSh, R1, R2, testK, truK, pk, g_mul m1, g_mul m2, g_mul m3, T1, T2, T3, M70.P_per h k j hk, M70.P_scale h k g hg, M70.P_neg h k hk, k_isfrac, z]
    · have B := fun r => @k_both r h k (by omega) hk ek (bd_mono bh0 (by decide))
      simp [f__law_pair, runF, c__law_pair, entry, X1, gTs, isSh, R1, R2, testK, truK, pk, g_mul m1, g_mul m2, g_mul m3, T1, T2, T3, M70.P_per h k j hk, M70.P_scale h k g hg, M70.P_neg h k hk, k_isfrac, z, B]
  exact callK_sh e.choose_spec
end Law
end PartP70

section PartP70b
set_option Elab.async false
set_option linter.all false
set_option maxRecDepth 100000
set_option maxHeartbeats 1000000
set_option exponentiation.threshold 5000
namespace Law
open PySem PD
def GP (xs : List T) : Prop := xs ≠ [] ∧ xs.length ≤ 50000 ∧ ∀ t ∈ xs, ∃ i, t = I i
theorem atI0 (x : T) (xs : List T) : L2.atI (x :: xs) 0 = some x := by
  unfold L2.atI L2.ixN
  simp
theorem ixN0 (n : Nat) : L2.ixN (n + 1) 0 = some 0 := by
  unfold L2.ixN
  simp
theorem draw_tail (i size : Int) (xs : List T) (hs : 0 < size) (hb : Bd 9000 size) : ((sSet 2 (bin (onA (aC (bin (eV 0) (eC (.int 0)) gIx) (aN)) kInt) (eV 1) (gII cMod))).andThen ((sAsg (bin (bin (eV 0) (eC (.int 0)) gIx) (eV 1) (gII cDiv)) (gSet 0 (eC (.int 0)))).andThen (sRetM (eV 2)))) [some (.nd .ln .lst (I i :: xs)), some (I size), none] =
    .ok (.rt [some (.nd .ln .lst (I (i / size) :: xs)), some (I size), some (I (i % size))] (I (i % size))) := by
  have s0 : size ≠ 0 := by omega
  have d1 : divOk i size = true := divOk_bd s0 (by decide)
  simp [gIx, pk, atI0, kInt, g_mod s0, fmod_pos hs, g_div d1, fdiv_pos hs, gSet, wrf, ixN0, isSh]
theorem e_draw (xs : List T) (size : Int) (hx : GP xs) (hs : 0 < size) (hb : Bd 9000 size) : ∃ ys d o1 o2, f__law_draw [.nd .ln .lst xs, I size] = .ok ([some (.nd .ln .lst ys), o1, o2], I d) ∧ GP ys ∧ 0 ≤ d ∧ d < size := by
  obtain ⟨h1, h2, h3⟩ := hx
  cases xs with
  | nil => exact absurd rfl h1
  | cons t xs =>
    obtain ⟨i, rfl⟩ := h3 t List.mem_cons_self
    have nn := fun (i : Int) => Int.emod_nonneg i (show size ≠ 0 by omega)
    have lt := fun (i : Int) => Int.emod_lt_of_pos i hs
    have keep : ∀ (i : Int) (xs : List T), (I i :: xs).length ≤ 50000 → (∀ t ∈ xs, ∃ i, t = I i) → GP (I (i / size) :: xs) := fun i xs l h => ⟨by simp, l, fun t ht => by
      rcases List.mem_cons.mp ht with e | ht
      · exact ⟨_, e⟩
      · exact h t ht⟩
    have stay : ((i = 0 ∧ 1 < (I i :: xs).length) → False) → ∃ ys d o1 o2, f__law_draw [.nd .ln .lst (I i :: xs), I size] = .ok ([some (.nd .ln .lst ys), o1, o2], I d) ∧ GP ys ∧ 0 ≤ d ∧ d < size := fun z => by
      refine ⟨I (i / size) :: xs, i % size, some (I size), some (I (i % size)), ?_, keep i xs h2 fun t ht => h3 t (List.mem_cons_of_mem _ ht), nn i, lt i⟩
      have dt := draw_tail i size xs hs hb
      by_cases i0 : i = 0
      · subst i0
        have x0 : xs = [] := by
          cases xs with
          | nil => rfl
          | cons _ _ => exact absurd ⟨rfl, by simp⟩ z
        subst x0
        unfold f__law_draw runF c__law_draw
        simp only [XS_andThen_ap (sIf _ _ _)]
        simp [entry, gIx, pk, atI0, kLen, testK] at dt ⊢
        rw [dt]
      · unfold f__law_draw runF c__law_draw
        simp only [XS_andThen_ap (sIf _ _ _)]
        simp [entry, gIx, pk, atI0, kLen, testK, i0] at dt ⊢
        rw [dt]
    by_cases i0 : i = 0
    · cases xs with
      | nil => exact stay (fun z => by simp at z)
      | cons t2 xs2 =>
        obtain ⟨i2, rfl⟩ := h3 t2 (by simp)
        subst i0
        refine ⟨I (i2 / size) :: xs2, i2 % size, some (I size), some (I (i2 % size)), ?_, keep i2 xs2 (by simp at h2 ⊢; omega) fun t ht => h3 t (by simp [ht]), nn i2, lt i2⟩
        have l1 : xs2.length + 1 + 1 ≤ 100000 := by simp at h2; omega
        have g1 : (1 : Int) < (xs2.length : Int) + 1 + 1 := by omega
        have s0 : size ≠ 0 := by omega
        have d1 : divOk i2 size = true := divOk_bd s0 (by decide)
        simp [f__law_draw, runF, c__law_draw, entry, gIx, pk, atI0, kLen, testK, mPopAt, l1, ixN0, isSh, wrf, g1, kInt, g_mod s0, fmod_pos hs, g_div d1, fdiv_pos hs, gSet]
    · exact stay (fun z => i0 z.1)
theorem k_draw (r : PD.Env) (j : Nat) (xs : List T) (size : Int) (hj : r[j]? = some (some (.nd .ow .lst xs))) (hx : GP xs) (hs : 0 < size) (hb : Bd 9000 size) : ∃ ys d, callK 2 f__law_draw r [.rf j, I size] = .ok (r.set j (some (.nd .ow .lst ys)), I d) ∧ GP ys ∧ 0 ≤ d ∧ d < size := by
  obtain ⟨ys, d, o1, o2, e, g, h1, h2⟩ := e_draw xs size hx hs hb
  refine ⟨ys, d, ?_, g, h1, h2⟩
  unfold callK
  rw [if_pos ⟨rfl, rfl⟩]
  have el : List.map (lend r) [T.rf j, I size] = [.nd .ln .lst xs, I size] := by
    simp [lend, hj, lendF]
  rw [el, e]
  show Res.ok (back (give r j (some (.nd .ln .lst ys))) [I size] [o1, o2], I d) = _
  have eg : give r j (some (.nd .ln .lst ys)) = r.set j (some (.nd .ow .lst ys)) := by
    unfold give
    rw [hj]
    rfl
  rw [eg]
  rfl
/-! the pool -/
def Ms : Int := 2147483647
theorem k_mixed (r : PD.Env) (a b : Int) (ha : Bd 1048576 a) (hb : Bd 64 b) : ∃ x, callK 2 f__law_mixed r [I a, I b] = .ok (r, I x) := by
  have m1 : mulOk a 48271 = true := mulOk_bd (by decide)
  have m2 : mulOk b 69621 = true := mulOk_bd (by decide)
  have e : ∃ rc x, f__law_mixed [I a, I b] = .ok (rc, I x) := by
    generalize ef : (a * 48271 + b * 69621 + 1013904223) % 2147483647 = f
    have f0 : 0 ≤ f := by omega
    have f1 : f < 2147483647 := by omega
    have bf : Bd 31 f := bd_of (by simp; omega) (by simp; omega)
    have m3 : mulOk f f = true := mulOk_bd (by decide)
    have m4 : mulOk b 16807 = true := mulOk_bd (by decide)
    have m5 : mulOk f 31 = true := mulOk_bd (by decide)
    have m6 : mulOk f 2147483629 = true := mulOk_bd (by decide)
    have p1 := fun (x : Int) => fmod_pos (a := x) (b := 2147483647) (by decide)
    have p2 := fun (x : Int) => fmod_pos (a := x) (b := 2147483629) (by decide)
    have p3 := fun (x : Int) => fmod_pos (a := x) (b := 2147483587) (by decide)
    generalize eg : (f * f + b * 16807 + 7) % 2147483629 = g
    have g0 : 0 ≤ g := by omega
    have g1 : g < 2147483629 := by omega
    have bg : Bd 31 g := bd_of (by simp; omega) (by simp; omega)
    have m7 : mulOk g g = true := mulOk_bd (by decide)
    have bs : Bd 70 (f * 2147483629 + g) := bd_mono (inferInstance : Bd _ (f * 2147483629 + g)) (by decide)
    have m8 : mulOk (f * 2147483629 + g) 2147483587 = true := mulOk_bd (by decide)
    simp [f__law_mixed, runF, c__law_mixed, entry, kInt, g_mod, g_mul m1, g_mul m2, p1, ef, g_mul m3, g_mul m4, p2, eg, g_mul m5, g_mul m7, p3, g_mul m6, g_mul m8]
  obtain ⟨rc, x, e⟩ := e
  exact ⟨x, callK_sh e⟩
def BIG : Int := 10 ^ 60 * 10 ^ 60 * 10 ^ 60
theorem BIG_ne : BIG ≠ 0 := by unfold BIG; decide
theorem big_ok (r : PD.Env) : bin (bin (bin (eC (.int 10)) (eC (.int 60)) (gII cPow)) (bin (eC (.int 10)) (eC (.int 60)) (gII cPow)) (gMul)) (bin (eC (.int 10)) (eC (.int 60)) (gII cPow)) (gMul) r = .ok (r, I BIG) := by
  have q1 : powOk 10 60 = true := by decide +kernel
  have q2 : mulOk (10 ^ (Int.toNat 60)) (10 ^ (Int.toNat 60)) = true := by decide +kernel
  have q3 : mulOk (10 ^ (Int.toNat 60) * 10 ^ (Int.toNat 60)) (10 ^ (Int.toNat 60)) = true := by decide +kernel
  simp only [bin_ap, eC_ap, g_pow q1, g_mul q2, g_mul q3]
  rfl
theorem e18_ok (r : PD.Env) : bin (eC (.int 10)) (eC (.int 18)) (gII cPow) r = .ok (r, I 1000000000000000000) := by
  have q1 : powOk 10 18 = true := by decide +kernel
  simp only [bin_ap, eC_ap, g_pow q1]
  rfl
theorem e20_ok (r : PD.Env) : bin (eC (.int 10)) (eC (.int 20)) (gII cPow) r = .ok (r, I 100000000000000000000) := by
  have q1 : powOk 10 20 = true := by decide +kernel
  simp only [bin_ap, eC_ap, g_pow q1]
  rfl
noncomputable abbrev pF (be e8 : XE) : XS := (sSet 4 (onA (aC (bin (eV 0) (eV 3) gIx) (aN)) kInt)).andThen ((sSet 2 (bin (bin (bin (eV 2) (eC (.int 7)) (gMul)) (eV 4) (gAdd)) (eC (.int 2147483647)) (gII cMod))).andThen (sIf (tCmp (bin (eV 4) e8 (gII cGe))) (sExpr (eMut 1 (aC (bin (eV 4) be (gII cMod)) (aN)) mAppend)) (sExpr (eMut 1 (aC (eFz (onA (aD (aC (eV 4) (aC (eV 3) (aN))) []) (callK 2 f__law_mixed))) (aN)) mAppend))))
def AI (xs : List T) : Prop := ∀ t ∈ xs, ∃ i, t = I i
theorem AI.add {xs : List T} (h : AI xs) (x : Int) : AI (xs ++ [I x]) := fun t ht => by
  rcases List.mem_append.mp ht with q | q
  · exact h t q
  · exact ⟨x, List.mem_singleton.mp q⟩
theorem atI_nat {α : Type} (xs : List α) (k : Nat) (x : α) (h : xs[k]? = some x) : L2.atI xs (k : Int) = some x := by
  have lt := (List.getElem?_eq_some_iff.mp h).1
  unfold L2.atI L2.ixN
  simp [lt, h]
  exact (List.getElem?_eq_some_iff.mp h).2
theorem loop_pool (be e8 : XE) (hB : ∀ r, be r = .ok (r, I BIG)) (h8 : ∀ r, e8 r = .ok (r, I 1000000000000000000)) (ns : List Int) (hb : ∀ z ∈ ns, Bd 1048576 z) : ∀ (ks : List Nat), (∀ k ∈ ks, k < ns.length ∧ k < 63) → ∀ (xs : List T) (sd : Int) (o3 o4 : Option T), AI xs → xs.length + ks.length ≤ 1000 → 0 ≤ sd → sd < 2147483647 → lent o3 = false → lent o4 = false →
    ∃ ys sd' p3 p4, AI ys ∧ ys.length = xs.length + ks.length ∧ 0 ≤ sd' ∧ sd' < 2147483647 ∧ lent p3 = false ∧ lent p4 = false ∧
      forK (gN 3) (pF be e8) (ks.map fun (k : Nat) => I (0 + (k : Int))) [some (scr ns), some (.nd .ow .lst xs), some (I sd), o3, o4] = .ok (.nx [some (scr ns), some (.nd .ow .lst ys), some (I sd'), p3, p4])
  | [], _, xs, sd, o3, o4, ha, hl, h0, h1, l3, l4 => ⟨xs, sd, o3, o4, ha, rfl, h0, h1, l3, l4, rfl⟩
  | k :: ks, hk, xs, sd, o3, o4, ha, hl, h0, h1, l3, l4 => by
    obtain ⟨k1, k2⟩ := hk k List.mem_cons_self
    obtain ⟨c, ec⟩ : ∃ c, ns[k]? = some c := ⟨ns[k], by simp [k1]⟩
    have bc := hb c (List.mem_of_getElem? ec)
    have at1 : L2.atI (ns.map fun i => T.sc (.int i)) (k : Int) = some (I c) := atI_nat _ k _ (by simp [ec])
    have bs : Bd 31 sd := bd_of (by simp; omega) (by simp; omega)
    have bk : Bd 64 (k : Int) := bd_of (by simp; omega) (by simp; omega)
    have m1 : mulOk sd 7 = true := mulOk_bd (by decide)
    have p1 := fun (x : Int) => fmod_pos (a := x) (b := 2147483647) (by decide)
    have xl : xs.length ≤ 100000 := by simp at hl; omega
    have s0 : 0 ≤ (sd * 7 + c) % 2147483647 := by omega
    have s1 : (sd * 7 + c) % 2147483647 < 2147483647 := by omega
    have key : ∃ x, ∀ rest, forK (gN 3) (pF be e8) (I (0 + (k : Int)) :: rest) [some (scr ns), some (.nd .ow .lst xs), some (I sd), o3, o4] = forK (gN 3) (pF be e8) rest [some (scr ns), some (.nd .ow .lst (xs ++ [I x])), some (I ((sd * 7 + c) % 2147483647)), some (I (0 + (k : Int))), some (I c)] := by
      by_cases z : (1000000000000000000 : Int) ≤ c
      · refine ⟨c.fmod BIG, fun rest => ?_⟩
        simp [forK, l3, l4, scr, gIx, pk, at1, kInt, g_mul m1, g_mod, p1, hB, h8, z, testK, g_mod BIG_ne, mAppend, wrf, xl, isSh, loopK]
      · obtain ⟨x, ex⟩ : ∃ x, ∀ r, callK 2 f__law_mixed r [I c, I (k : Int)] = .ok (r, I x) := by
          obtain ⟨x, ex⟩ := k_mixed [] c k bc bk
          refine ⟨x, fun r => ?_⟩
          unfold callK at ex ⊢
          rw [if_pos ⟨rfl, rfl⟩] at ex ⊢
          have l1 : ∀ r, List.map (lend r) [I c, I (k : Int)] = [I c, I (k : Int)] := fun r => rfl
          rw [l1] at ex ⊢
          cases ef : f__law_mixed [I c, I (k : Int)] with
          | ok p =>
            obtain ⟨rc, t⟩ := p
            rw [ef] at ex
            have e2 : back r [I c, I (k : Int)] rc = r := back_all _ _ _ rfl
            have e3 : t = I x := by
              have z : Res.ok (back [] [I c, I (k : Int)] rc, t) = Res.ok ([], I x) := ex
              injection z with z
              exact (Prod.mk.inj z).2
            show Res.ok (back r [I c, I (k : Int)] rc, t) = _
            rw [e2, e3]
          | err a b d =>
            rw [ef] at ex
            cases ex
          | stuck =>
            rw [ef] at ex
            cases ex
        refine ⟨x, fun rest => ?_⟩
        simp [forK, l3, l4, scr, gIx, pk, at1, kInt, g_mul m1, g_mod, p1, h8, z, testK, ex, frzK, mAppend, wrf, xl, isSh, loopK]
    obtain ⟨x, ek⟩ := key
    obtain ⟨ys, sd', p3, p4, q1, q2, q3, q4, q5, q6, q7⟩ := loop_pool be e8 hB h8 ns hb ks (fun j hj => hk j (List.mem_cons_of_mem _ hj)) (xs ++ [I x]) _ (some (I (0 + (k : Int)))) (some (I c)) (ha.add x) (by simp at hl ⊢; omega) s0 s1 rfl rfl
    refine ⟨ys, sd', p3, p4, q1, by simp at q2 ⊢; omega, q3, q4, q5, q6, ?_⟩
    rw [List.map_cons, ek]
    exact q7
end Law
end PartP70b

section PartP70c
set_option Elab.async false
set_option linter.all false
set_option maxRecDepth 100000
set_option maxHeartbeats 1000000
set_option exponentiation.threshold 5000
namespace Law
open PySem PD
theorem k_mixedA (a b : Int) (ha : Bd 1048576 a) (hb : Bd 64 b) : ∃ x, ∀ r, callK 2 f__law_mixed r [I a, I b] = .ok (r, I x) := by
  obtain ⟨x, ex⟩ := k_mixed [] a b ha hb
  refine ⟨x, fun r => ?_⟩
  unfold callK at ex ⊢
  rw [if_pos ⟨rfl, rfl⟩] at ex ⊢
  have l1 : ∀ r, List.map (lend r) [I a, I b] = [I a, I b] := fun r => rfl
  rw [l1] at ex ⊢
  cases ef : f__law_mixed [I a, I b] with
  | ok p =>
    obtain ⟨rc, t⟩ := p
    rw [ef] at ex
    have e2 : back r [I a, I b] rc = r := back_all _ _ _ rfl
    have e3 : t = I x := by
      have z : Res.ok (back [] [I a, I b] rc, t) = Res.ok ([], I x) := ex
      injection z with z
      exact (Prod.mk.inj z).2
    show Res.ok (back r [I a, I b] rc, t) = _
    rw [e2, e3]
  | err a b d =>
    rw [ef] at ex
    cases ex
  | stuck =>
    rw [ef] at ex
    cases ex
noncomputable abbrev mF : XS := sExpr (eMut 1 (aC (eFz (onA (aD (aC (eV 2) (aC (bin (eC (.int 100)) (eV 3) (gAdd)) (aN))) []) (callK 2 f__law_mixed))) (aN)) mAppend)
theorem loop_mix (sc : T) (sd : Int) (h0 : 0 ≤ sd) (h1 : sd < 2147483647) (o4 : Option T) : ∀ (ks : List Nat), (∀ k ∈ ks, k < 63) → ∀ (xs : List T) (o3 : Option T), AI xs → xs.length + ks.length ≤ 1000 → lent o3 = false →
    ∃ ys p3, AI ys ∧ ys.length = xs.length + ks.length ∧ forK (gN 3) mF (ks.map fun (k : Nat) => I (0 + (k : Int))) [some sc, some (.nd .ow .lst xs), some (I sd), o3, o4] = .ok (.nx [some sc, some (.nd .ow .lst ys), some (I sd), p3, o4])
  | [], _, xs, o3, ha, hl, l3 => ⟨xs, o3, ha, rfl, rfl⟩
  | k :: ks, hk, xs, o3, ha, hl, l3 => by
    have k2 := hk k List.mem_cons_self
    have bs : Bd 1048576 sd := bd_mono (bd_of (n := 31) (by simp; omega) (by simp; omega)) (by decide)
    have bk : Bd 64 (100 + (0 + (k : Int))) := bd_of (by simp; omega) (by simp; omega)
    have xl : xs.length ≤ 100000 := by simp at hl; omega
    obtain ⟨x, ex⟩ := k_mixedA sd (100 + (0 + (k : Int))) bs bk
    obtain ⟨ys, p3, q1, q2, q3⟩ := loop_mix sc sd h0 h1 o4 ks (fun j hj => hk j (List.mem_cons_of_mem _ hj)) (xs ++ [I x]) (some (I (0 + (k : Int)))) (ha.add x) (by simp at hl ⊢; omega) rfl
    refine ⟨ys, p3, q1, by simp at q2 ⊢; omega, ?_⟩
    rw [List.map_cons, ← q3]
    rw [Int.zero_add] at ex ⊢
    simp [forK, l3, ex, frzK, mAppend, wrf, xl, isSh, loopK]
theorem e_pool (ns : List Int) (hn : ns.length ≤ 63) (hb : ∀ z ∈ ns, Bd 1048576 z) : ∃ rc ys, f__law_pool [scr ns] = .ok (rc, .nd .ow .lst ys) ∧ GP ys := by
  have ei : imin (ns.length : Int) 63 = (ns.length : Int) := by
    unfold imin
    rw [if_neg (by omega)]
  obtain ⟨ys, sd, p3, p4, q1, q2, q3, q4, q5, q6, q7⟩ := loop_pool (bin (bin (bin (eC (.int 10)) (eC (.int 60)) (gII cPow)) (bin (eC (.int 10)) (eC (.int 60)) (gII cPow)) (gMul)) (bin (eC (.int 10)) (eC (.int 60)) (gII cPow)) (gMul)) (bin (eC (.int 10)) (eC (.int 18)) (gII cPow)) big_ok e18_ok ns hb (List.range ns.length) (fun k hk => by
    have := List.mem_range.mp hk
    omega) [] 0 none none (fun t ht => by cases ht) (by simp; omega) (by decide) (by decide) rfl rfl
  obtain ⟨zs, p5, r1, r2, r3⟩ := loop_mix (scr ns) sd q3 q4 p4 (List.range 4) (fun k hk => by
    have := List.mem_range.mp hk
    omega) ys p3 q1 (by simp at q2 ⊢; omega) q5
  have er : rngT 0 (ns.length : Int) = (List.range ns.length).map fun (k : Nat) => I (0 + (k : Int)) := by
    unfold rngT
    rw [show ((ns.length : Int) - 0).toNat = ns.length by omega]
  have er4 : rngT 0 4 = (List.range 4).map fun (k : Nat) => I (0 + (k : Int)) := rfl
  have i1 : inR (ns.length : Int) = true := by
    unfold inR
    simp
    omega
  have i2 : inR 4 = true := rfl
  rw [← er] at q7
  rw [← er4] at r3
  generalize ebe : bin (bin (bin (eC (.int 10)) (eC (.int 60)) (gII cPow)) (bin (eC (.int 10)) (eC (.int 60)) (gII cPow)) (gMul)) (bin (eC (.int 10)) (eC (.int 60)) (gII cPow)) (gMul) = be at q7
  generalize ee8 : bin (eC (.int 10)) (eC (.int 18)) (gII cPow) = e8 at q7
  refine ⟨[some (scr ns), none, some (I sd), p5, p4], zs, ?_, ?_, ?_, ?_⟩
  · unfold f__law_pool runF c__law_pool
    rw [ebe, ee8]
    unfold scr at q7 r3 ⊢
    simp [entry, kLst, kLen, pk, k2, ei, i1, i2, q7, r3]
  · intro z
    rw [z] at r2
    simp at r2
  · simp at r2 q2
    omega
  · exact r1
theorem k_pool (ns : List Int) (hn : ns.length ≤ 63) (hb : ∀ z ∈ ns, Bd 1048576 z) : ∃ ys, GP ys ∧ ∀ r, callK 1 f__law_pool r [scr ns] = .ok (r, .nd .ow .lst ys) := by
  obtain ⟨rc, ys, e, g⟩ := e_pool ns hn hb
  exact ⟨ys, g, fun r => callK_sh e⟩
/-! the law -/
def PO (ps : List T) : Prop := ∀ t ∈ ps, ∃ h k : Int, t = tp (h, k) ∧ 0 < k ∧ Bd 1900 k ∧ Bd 1900 h
theorem PO.add {ps : List T} (p : PO ps) {h k : Int} (h1 : 0 < k) (h2 : Bd 1900 k) (h3 : Bd 1900 h) : PO (ps ++ [tp (h, k)]) := fun t ht => by
  rcases List.mem_append.mp ht with q | q
  · exact p t q
  · exact ⟨h, k, List.mem_singleton.mp q, h1, h2, h3⟩
theorem bd_small {n : Nat} {i : Int} (h1 : -(2 ^ n : Int) < i) (h2 : i < (2 ^ n : Int)) {m : Nat} (l : n ≤ m) : Bd m i := bd_mono (bd_of h1 h2) l
/-- first pairs -/
noncomputable abbrev aF : XS := sExpr (eMut 2 (aC (onA (aC (bin (onA (aD (aC (eV 1) (aC (eC (.int 400)) (aN))) []) (callK 2 f__law_draw)) (eC (.int 100)) (gII cSub)) (aC (bin (eC (.int 1)) (onA (aD (aC (eV 1) (aC (eC (.int 40)) (aN))) []) (callK 2 f__law_draw)) (gAdd)) (aN))) kTup) (aN)) mAppend)
theorem loop_a (sc : T) (o4 o5 o6 : Option T) : ∀ (ks : List Int) (xs ps : List T) (o3 : Option T), GP xs → PO ps → ps.length + ks.length ≤ 1000 → lent o3 = false →
    ∃ xs' ps' p3, GP xs' ∧ PO ps' ∧ ps'.length = ps.length + ks.length ∧ lent p3 = false ∧ forK (gN 3) aF (ks.map fun i => I i) [some sc, some (.nd .ow .lst xs), some (.nd .ow .lst ps), o3, o4, o5, o6] = .ok (.nx [some sc, some (.nd .ow .lst xs'), some (.nd .ow .lst ps'), p3, o4, o5, o6])
  | [], xs, ps, o3, g, p, l, l3 => ⟨xs, ps, o3, g, p, rfl, l3, rfl⟩
  | k :: ks, xs, ps, o3, g, p, l, l3 => by
    obtain ⟨y1, d1, e1, g1, a1, b1⟩ := k_draw [some sc, some (.nd .ow .lst xs), some (.nd .ow .lst ps), some (I k), o4, o5, o6] 1 xs 400 rfl g (by decide) (bd_mono (inferInstance : Bd _ (400 : Int)) (by decide))
    obtain ⟨y2, d2, e2, g2, a2, b2⟩ := k_draw [some sc, some (.nd .ow .lst y1), some (.nd .ow .lst ps), some (I k), o4, o5, o6] 1 y1 40 rfl g1 (by decide) (bd_small (n := 6) (by decide) (by decide) (by decide))
    have pl : ps.length ≤ 100000 := by simp at l; omega
    obtain ⟨xs', ps', p3, q1, q2, q3, q4, q5⟩ := loop_a sc o4 o5 o6 ks y2 (ps ++ [tp (d1 - 100, 1 + d2)]) (some (I k)) g2 (p.add (by omega) (bd_small (n := 20) (by simp; omega) (by simp; omega) (by decide)) (bd_small (n := 20) (by simp; omega) (by simp; omega) (by decide))) (by simp at l ⊢; omega) rfl
    refine ⟨xs', ps', p3, q1, q2, by simp at q3 ⊢; omega, q4, ?_⟩
    rw [List.map_cons, ← q5]
    simp at e1 e2
    simp [forK, l3, e1, e2, kTup, isSh, mAppend, wrf, pl, loopK]
end Law
end PartP70c

section PartP70d
set_option Elab.async false
set_option linter.all false
set_option maxRecDepth 100000
set_option maxHeartbeats 1000000
set_option exponentiation.threshold 5000
namespace Law
open PySem PD
theorem bd_pow {n : Nat} {i : Int} (h : Bd n i) : Bd (n * 7) (i ^ 7) := ⟨by
  rw [Int.natAbs_pow, Nat.pow_mul]
  exact Nat.pow_lt_pow_left h.lt (by decide)⟩
theorem powOk_bd {n : Nat} {i : Int} (h : Bd n i) (l : n * 7 ≤ 134217728) : powOk i 7 = true := by
  have := h.bits
  unfold powOk
  simp
  omega
abbrev mS : XS := sIf (tCmp (bin (eV 4) (eC (.int 7)) (gEq))) ((sSet 5 (bin (bin (eV 5) (eC (.int 7)) (gII cPow)) (eV 3) (gAdd))).andThen (sSet 6 (bin (bin (eV 6) (eC (.int 7)) (gII cPow)) (eC (.int 1)) (gAdd)))) (sNx)
def MidOk (ms : XS) : Prop := ∀ (sc a b : T) (pw k d1 d2 : Int), 0 ≤ k → k ≤ 1 → 0 ≤ d1 → d1 < 100000000000000000000 → 0 ≤ d2 → d2 < 100000000000000000000 →
  ∃ hh mm : Int, 0 < mm ∧ Bd 600 hh ∧ Bd 600 mm ∧ ms [some sc, some a, some b, some (I k), some (I pw), some (I d1), some (I (1 + d2))] = .ok (.nx [some sc, some a, some b, some (I k), some (I pw), some (I hh), some (I mm)])
theorem mid_ok : MidOk mS := fun sc a b pw k d1 d2 k0 k1 a1 b1 a2 b2 => by
  have q1 : Bd 67 d1 := bd_of (by simp; omega) (by simp; omega)
  have q2 : Bd 68 (1 + d2) := bd_of (by simp; omega) (by simp; omega)
  have bk : Bd 2 k := bd_of (by simp; omega) (by simp; omega)
  by_cases z : pw = 7
  · have w1 := powOk_bd q1 (by decide)
    have w2 := powOk_bd q2 (by decide)
    have c1 := bd_pow q1
    have c2 := bd_pow q2
    refine ⟨d1 ^ 7 + k, (1 + d2) ^ 7 + 1, ?_, bd_mono (Bd.add (i := d1 ^ 7) (j := k) (hi := c1)) (by decide), bd_mono (Bd.add (i := (1 + d2) ^ 7) (j := (1 : Int)) (hi := c2)) (by decide), ?_⟩
    · have : 0 ≤ (1 + d2) ^ 7 := Int.pow_nonneg (by omega)
      omega
    · simp [z, testK, g_pow w1, g_pow w2]
  · exact ⟨d1, 1 + d2, by omega, bd_mono q1 (by decide), bd_mono q2 (by decide), by simp [z, testK]⟩
noncomputable abbrev bF (e2 : XE) (ms : XS) : XS := (sSet 5 (onA (aD (aC (eV 1) (aC e2 (aN))) []) (callK 2 f__law_draw))).andThen ((sSet 6 (bin (eC (.int 1)) (onA (aD (aC (eV 1) (aC e2 (aN))) []) (callK 2 f__law_draw)) (gAdd))).andThen (ms.andThen (sExpr (eMut 2 (aC (onA (aC (bin (eV 5) (bin (eC (.int 1)) (bin (eC (.int 2)) (onA (aD (aC (eV 1) (aC (eC (.int 2)) (aN))) []) (callK 2 f__law_draw)) (gMul)) (gII cSub)) (gMul)) (aC (eFz (eV 6)) (aN))) kTup) (aN)) mAppend))))
theorem loop_b (e2 : XE) (ms : XS) (hms : MidOk ms) (h2 : ∀ r, e2 r = .ok (r, I 100000000000000000000)) (sc : T) (pw : Int) : ∀ (ks : List Int), (∀ k ∈ ks, 0 ≤ k ∧ k ≤ 1) → ∀ (xs ps : List T) (o3 o5 o6 : Option T), GP xs → PO ps → ps.length + ks.length ≤ 1000 → lent o3 = false → lent o5 = false → lent o6 = false →
    ∃ xs' ps' p3 p5 p6, GP xs' ∧ PO ps' ∧ ps'.length = ps.length + ks.length ∧ lent p3 = false ∧ lent p5 = false ∧ lent p6 = false ∧ forK (gN 3) (bF e2 ms) (ks.map fun i => I i) [some sc, some (.nd .ow .lst xs), some (.nd .ow .lst ps), o3, some (I pw), o5, o6] = .ok (.nx [some sc, some (.nd .ow .lst xs'), some (.nd .ow .lst ps'), p3, some (I pw), p5, p6])
  | [], hk, xs, ps, o3, o5, o6, g, p, l, l3, l5, l6 => ⟨xs, ps, o3, o5, o6, g, p, rfl, l3, l5, l6, rfl⟩
  | k :: ks, hk, xs, ps, o3, o5, o6, g, p, l, l3, l5, l6 => by
    obtain ⟨k0, k1⟩ := hk k List.mem_cons_self
    have pl : ps.length ≤ 100000 := by simp at l; omega
    have b20 : Bd 9000 (100000000000000000000 : Int) := bd_small (n := 67) (by decide) (by decide) (by decide)
    obtain ⟨y1, d1, e1, g1, a1, b1⟩ := k_draw [some sc, some (.nd .ow .lst xs), some (.nd .ow .lst ps), some (I k), some (I pw), o5, o6] 1 xs 100000000000000000000 rfl g (by decide) b20
    obtain ⟨y2, d2, e2', g2, a2, b2⟩ := k_draw [some sc, some (.nd .ow .lst y1), some (.nd .ow .lst ps), some (I k), some (I pw), some (I d1), o6] 1 y1 100000000000000000000 rfl g1 (by decide) b20
    simp at e1 e2'
    have mid := hms sc (.nd .ow .lst y2) (.nd .ow .lst ps) pw k d1 d2 k0 k1 a1 b1 a2 b2
    obtain ⟨hh, mm, m0, m1, m2, em⟩ := mid
    obtain ⟨y3, d3, e3, g3, a3, b3⟩ := k_draw [some sc, some (.nd .ow .lst y2), some (.nd .ow .lst ps), some (I k), some (I pw), some (I hh), some (I mm)] 1 y2 2 rfl g2 (by decide) (bd_small (n := 2) (by decide) (by decide) (by decide))
    have bd3 : Bd 2 d3 := bd_of (by simp; omega) (by simp; omega)
    have w3 : mulOk 2 d3 = true := mulOk_bd (by decide)
    have bs : Bd 5 (1 - 2 * d3) := bd_of (by simp; omega) (by simp; omega)
    have w4 : mulOk hh (1 - 2 * d3) = true := mulOk_bd (by decide)
    have bf : Bd 1900 (hh * (1 - 2 * d3)) := bd_mono (Bd.mul (i := hh) (j := 1 - 2 * d3)) (by decide)
    obtain ⟨xs', ps', p3, p5, p6, r1, r2, r3, r4, r5, r6, r7⟩ := loop_b e2 ms hms h2 sc pw ks (fun j hj => hk j (List.mem_cons_of_mem _ hj)) y3 (ps ++ [tp (hh * (1 - 2 * d3), mm)]) (some (I k)) (some (I hh)) (some (I mm)) g3 (p.add m0 (bd_mono m2 (by decide)) bf) (by simp at l ⊢; omega) rfl rfl rfl
    refine ⟨xs', ps', p3, p5, p6, r1, r2, by simp at r3 ⊢; omega, r4, r5, r6, ?_⟩
    rw [List.map_cons, ← r7]
    simp at e3
    simp [forK, l3, l5, l6, h2, e1, e2', em, e3, g_mul w3, g_mul w4, frzK, kTup, isSh, mAppend, wrf, pl, loopK]
noncomputable abbrev cF : XS := sIf (tNot (tOf (onA (aD (aC (eV 5) (aC (eV 3) (aC (bin (onA (aD (aC (eV 1) (aC (eC (.int 7)) (aN))) []) (callK 2 f__law_draw)) (eC (.int 3)) (gII cSub)) (aC (bin (eC (.int 1)) (onA (aD (aC (eV 1) (aC (eC (.int 9)) (aN))) []) (callK 2 f__law_draw)) (gAdd)) (aN))))) []) (callK 4 f__law_pair)))) (sRet (eC (.bl false))) (sNx)
theorem loop_c (sc : T) (o2 o4 : Option T) : ∀ (qs : List T), PO qs → ∀ (xs : List T) (o3 o5 o6 : Option T), GP xs → lent o3 = false → lent o5 = false →
    ∃ xs' p3 p5, GP xs' ∧ lent p3 = false ∧ lent p5 = false ∧ forK (gU [gN 5, gN 3]) cF qs [some sc, some (.nd .ow .lst xs), o2, o3, o4, o5, o6] = .ok (.nx [some sc, some (.nd .ow .lst xs'), o2, p3, o4, p5, o6])
  | [], _, xs, o3, o5, o6, g, l3, l5 => ⟨xs, o3, o5, g, l3, l5, rfl⟩
  | q :: qs, hq, xs, o3, o5, o6, g, l3, l5 => by
    obtain ⟨h, k, rfl, k0, bk, bh⟩ := hq q List.mem_cons_self
    obtain ⟨y1, d1, e1, g1, a1, b1⟩ := k_draw [some sc, some (.nd .ow .lst xs), o2, some (I k), o4, some (I h), o6] 1 xs 7 rfl g (by decide) (bd_small (n := 6) (by decide) (by decide) (by decide))
    obtain ⟨y2, d2, e2, g2, a2, b2⟩ := k_draw [some sc, some (.nd .ow .lst y1), o2, some (I k), o4, some (I h), o6] 1 y1 9 rfl g1 (by decide) (bd_small (n := 6) (by decide) (by decide) (by decide))
    obtain ⟨xs', p3, p5, r1, r2, r3, r4⟩ := loop_c sc o2 o4 qs (fun t ht => hq t (List.mem_cons_of_mem _ ht)) y2 (some (I k)) (some (I h)) o6 g2 rfl rfl
    refine ⟨xs', p3, p5, r1, r2, r3, ?_⟩
    have kp := fun r => k_pair r h k (d1 - 3) (1 + d2) k0 (by omega) (by omega) (by omega) (by omega) bk bh
    simp at e1 e2
    rw [← r4]
    simp [forK, gTs, l3, l5, e1, e2, kp, testK, truK, pk, loopK]
noncomputable abbrev dG2 : XS := sIf (tNot (tOf (onA (aD (aC (eV 5) (aC (eV 3) (aN))) []) (callK 2 f__law_refused)))) (sRet (eC (.bl false))) (sNx)
theorem loop_d (o0 o1 o2 o4 : Option T) (k : Int) (hk : k < 1) : ∀ (qs : List T), PO qs → ∀ (o5 o6 : Option T), lent o5 = false → lent o6 = false →
    ∃ p5 p6, lent p5 = false ∧ lent p6 = false ∧ forK (gU [gN 5, gN 6]) dG2 qs [o0, o1, o2, some (I k), o4, o5, o6] = .ok (.nx [o0, o1, o2, some (I k), o4, p5, p6])
  | [], _, o5, o6, l5, l6 => ⟨o5, o6, l5, l6, rfl⟩
  | q :: qs, hq, o5, o6, l5, l6 => by
    obtain ⟨h, m, rfl, _⟩ := hq q List.mem_cons_self
    obtain ⟨p5, p6, r1, r2, r3⟩ := loop_d o0 o1 o2 o4 k hk qs (fun t ht => hq t (List.mem_cons_of_mem _ ht)) (some (I h)) (some (I m)) rfl rfl
    refine ⟨p5, p6, r1, r2, ?_⟩
    rw [← r3]
    simp [forK, gTs, l5, l6, k_refused _ h k hk, testK, truK, pk, loopK]
end Law
end PartP70d

section PartP70e
set_option Elab.async false
set_option linter.all false
set_option maxRecDepth 100000
set_option maxHeartbeats 1000000
set_option exponentiation.threshold 5000
namespace Law
open PySem PD
theorem bd_bits {z : Int} {n : Nat} (h : Builtin.Int.intBits z ≤ n) : Bd n z := ⟨by
  unfold Builtin.Int.intBits at h
  by_cases z0 : z = 0
  · subst z0
    exact Nat.two_pow_pos _
  · have e : (z == 0) = false := beq_eq_false_iff_ne.mpr z0
    rw [e] at h
    have h : z.natAbs.log2 + 1 ≤ n := h
    exact Nat.lt_of_lt_of_le Nat.lt_log2_self (Nat.pow_le_pow_right (by decide) h)⟩
theorem cut_mem {ps : List T} {lo hi : Option Int} {t : T} (h : t ∈ cutT ps lo hi) : t ∈ ps := List.mem_of_mem_drop (List.mem_of_mem_take h)
theorem cut_len {ps : List T} {lo hi : Option Int} : (cutT ps lo hi).length ≤ ps.length := by
  unfold cutT
  rw [List.length_take, List.length_drop]
  omega
theorem then_nx {f k : XS} {r r1 : PD.Env} (h : f r = .ok (.nx r1)) : (f.andThen k) r = k r1 := by
  rw [XS_andThen_ap, h]
theorem law_true (ns : List Int) (hn : ns.length ≤ 63) (hb : ∀ z ∈ ns, Builtin.Int.intBits z ≤ 1048576) : ∃ r, f_law [scr ns] = .ok (r, .sc (.bl true)) := by
  obtain ⟨x0, g0, ep⟩ := k_pool ns hn (fun z hz => bd_bits (hb z hz))
  obtain ⟨x1, p1, o3, g1, po1, l1, t3, ea⟩ := loop_a (scr ns) none none none [0, 1] x0 [] none g0 (fun t ht => by cases ht) (by decide) rfl
  obtain ⟨x2, d1, e1, g2, a1, b1⟩ := k_draw [some (scr ns), some (.nd .ow .lst x1), some (.nd .ow .lst p1), o3, none, none, none] 1 x1 8 rfl g1 (by decide) (bd_small (n := 6) (by decide) (by decide) (by decide))
  obtain ⟨x3, p2, q3, q5, q6, g3, po2, l2, u3, u5, u6, eb⟩ := loop_b (bin (eC (.int 10)) (eC (.int 20)) (gII cPow)) mS mid_ok e20_ok (scr ns) d1 [0, 1] (fun k hk => by
    rcases List.mem_cons.mp hk with e | hk
    · omega
    · rcases List.mem_cons.mp hk with e | hk
      · omega
      · cases hk) x2 p1 o3 none none g2 po1 (by simp at l1 ⊢; omega) t3 rfl rfl
  have lp : p2.length ≤ 10 := by simp at l1 l2; omega
  have pc : PO (p2 ++ cutT p2 none (some 1)) := fun t ht => by
    rcases List.mem_append.mp ht with q | q
    · exact po2 t q
    · exact po2 t (cut_mem q)
  obtain ⟨x4, r3, r5, g4, v3, v5, ec⟩ := loop_c (scr ns) (some (.nd .ow .lst p2)) (some (I d1)) (p2 ++ cutT p2 none (some 1)) pc x3 q3 q5 q6 g3 u3 u5
  obtain ⟨x5, d2, e2, g5, a2, b2⟩ := k_draw [some (scr ns), some (.nd .ow .lst x4), some (.nd .ow .lst p2), r3, some (I d1), r5, q6] 1 x4 1000 rfl g4 (by decide) (bd_small (n := 12) (by decide) (by decide) (by decide))
  obtain ⟨s5, s6, w5, w6, ed⟩ := loop_d (some (scr ns)) (some (.nd .ow .lst x5)) (some (.nd .lk .lst p2)) (some (I d1)) 0 (by decide) p2 po2 r5 q6 v5 u6
  obtain ⟨s7, s8, w7, w8, ee⟩ := loop_d (some (scr ns)) (some (.nd .ow .lst x5)) (some (.nd .lk .lst p2)) (some (I d1)) (-1 - d2) (by omega) p2 po2 s5 s6 w5 w6
  have er2 : rngT 0 2 = ([0, 1] : List Int).map fun i => I i := by rfl
  have i2 : inR 2 = true := rfl
  have sz : p2.length + (cutT p2 none (some 1)).length ≤ sizeLine := sz5 (by
    have := cut_len (ps := p2) (lo := none) (hi := some 1)
    omega)
  rw [← er2] at ea eb
  simp at e1 e2
  generalize hms : mS = ms at eb
  generalize he2 : bin (eC (.int 10)) (eC (.int 20)) (gII cPow) = e20 at eb
  have hin : sForL (eV 2) (gU [gN 5, gN 6]) dG2 [some (scr ns), some (.nd .ow .lst x5), some (.nd .ow .lst p2), some (I 0), some (I d1), r5, q6] = .ok (.nx [some (scr ns), some (.nd .ow .lst x5), some (.nd .ow .lst p2), some (I 0), some (I d1), s5, s6]) := by
    unfold sForL
    simp [lockF, ed, mapR, unlk]
  have hin2 : sForL (eV 2) (gU [gN 5, gN 6]) dG2 [some (scr ns), some (.nd .ow .lst x5), some (.nd .ow .lst p2), some (I (-1 - d2)), some (I d1), s5, s6] = .ok (.nx [some (scr ns), some (.nd .ow .lst x5), some (.nd .ow .lst p2), some (I (-1 - d2)), some (I d1), s7, s8]) := by
    unfold sForL
    simp [lockF, ee, mapR, unlk]
  have hc : c_law [some (scr ns), none, none, none, none, none, none] = .ok (.rt [some (scr ns), some (.nd .ow .lst x5), some (.nd .ow .lst p2), some (I (-1 - d2)), some (I d1), s7, s8] (.sc (.bl true))) := by
    unfold c_law
    refine (then_nx (r1 := [some (scr ns), some (.nd .ow .lst x0), none, none, none, none, none]) ?_).trans ?_
    · unfold scr at ep ⊢
      simp [ep]
    refine (then_nx (r1 := [some (scr ns), some (.nd .ow .lst x0), some (.nd .ow .lst []), none, none, none, none]) ?_).trans ?_
    · simp [kLst]
    refine (then_nx (r1 := [some (scr ns), some (.nd .ow .lst x1), some (.nd .ow .lst p1), o3, none, none, none]) ?_).trans ?_
    · simp [i2, ea]
    refine (then_nx (r1 := [some (scr ns), some (.nd .ow .lst x2), some (.nd .ow .lst p1), o3, some (I d1), none, none]) ?_).trans ?_
    · simp [e1]
    refine (then_nx (r1 := [some (scr ns), some (.nd .ow .lst x3), some (.nd .ow .lst p2), q3, some (I d1), q5, q6]) ?_).trans ?_
    · unfold mS at hms
      rw [he2, hms]
      simp [i2, eb]
    refine (then_nx (r1 := [some (scr ns), some (.nd .ow .lst x4), some (.nd .ow .lst p2), r3, some (I d1), r5, q6]) ?_).trans ?_
    · simp [gSl, pk, gAdd, sz, ec]
    refine (then_nx (r1 := [some (scr ns), some (.nd .ow .lst x5), some (.nd .ow .lst p2), some (I (-1 - d2)), some (I d1), s7, s8]) ?_).trans ?_
    · generalize hL : sForL (eV 2) (gU [gN 5, gN 6]) dG2 = LL at hin hin2
      simp [e2, kLst, isSh, forK, v3, hin, hin2, loopK]
    · rfl
  exact ⟨_, by
    unfold f_law runF
    have en : entry 7 [scr ns] = [some (scr ns), none, none, none, none, none, none] := rfl
    rw [en, hc]⟩
end Law
end PartP70e

set_option linter.all false
theorem PySem.Challenge.cw_goodturns_k70_teeth_by_definition_holds : PySem.Challenge.rw_goodturns_k70_teeth_by_definition.Holds := by
  exact Law.ends fun ns hn hb => Law.law_true ns hn hb
