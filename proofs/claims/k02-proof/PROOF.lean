import PyProof.Rows.All
import Wide.All
import OpenK.AllK
import Wide.FinOn
import HandS.ForMost
import HandS.ForExc
import HandS.Defaults
import HandS.Walk
import HandS.Zip
import HandS.IsInst
import HandS.Gcd
import HandS.TupAny
import HandS.Deep
import HandS.CallSlots
import HandS.Flow
import HandS.Style
import HandS.HeadHook1
import HandS.HeadHook2
import HandS.Flt
import PyProof.Draws
import PyProof.StrBlock2
import HandS.Zip0
import HandS.WordsExc
import HandS.Conv
import KE.KStateDown
import Lean
import HandS.Head0
import HandS.Head1
import HandS.Head2
import HandS.Head3
import HandS.HeadEnd
import PySem.Challenge.RW_beatwords_k02_whole_counts
set_option Elab.async false
set_option linter.all false
set_option maxRecDepth 100000
set_option maxHeartbeats 0
namespace DL
open PySem PySem.Spec PyProof.Rows L2

/-! ### data -/
inductive D where
  | non | bl (b : Bool) | int (i : Int) | str (s : List Nat) | tup (xs : List D) | lst (xs : List D) | fl (xs : List D) | dct
mutual
def D.py : D → PyData
  | .non => .none
  | .bl b => .bool b
  | .int i => .int i
  | .str s => .str ⟨s.toArray⟩
  | .tup xs => .tuple (D.pys xs)
  | .lst xs => .list (D.pys xs)
  | .fl xs => .list (D.pys xs)
  | .dct => .dict []
def D.pys : List D → List PyData
  | [] => []
  | x :: xs => D.py x :: D.pys xs
end
def isSc : D → Bool
  | .non | .bl _ | .int _ | .str _ => true
  | _ => false

/-! ### heaps that go on -/
def Ex (H H' : Hp) : Prop := ∀ a o, H a = some o → H' a = some o
def Kp (B : Addr → Prop) (H H' : Hp) : Prop := ∀ a o, H a = some o → (¬ B a ∨ ∀ xs, o ≠ .lst xs) → H' a = some o
theorem Ex.refl (H : Hp) : Ex H H := fun _ _ h => h
theorem Ex.trans {H H1 H2 : Hp} (a : Ex H H1) (b : Ex H1 H2) : Ex H H2 := fun x o h => b x o (a x o h)
theorem Ex.kp {B : Addr → Prop} {H H' : Hp} (e : Ex H H') : Kp B H H' := fun a o h _ => e a o h
theorem Ex.new {H : Hp} {p : Addr} {o : HO} (h : H p = none) : Ex H (upd H p o) := fun a u e => by
  rw [upd_ne (ne_of_none e h)]
  exact e
theorem Ex.back {H H' : Hp} (e : Ex H H') {p : Addr} (h : H' p = none) : H p = none := by
  cases q : H p with
  | none => rfl
  | some o =>
    rw [e p o q] at h
    cases h
theorem Kp.refl {B : Addr → Prop} (H : Hp) : Kp B H H := fun _ _ h _ => h
theorem Kp.trans {B : Addr → Prop} {H H1 H2 : Hp} (a : Kp B H H1) (b : Kp B H1 H2) : Kp B H H2 := fun x o h n => b x o (a x o h n) n
theorem Kp.mono {B B' : Addr → Prop} {H H' : Hp} (k : Kp B H H') (h : ∀ a, B a → B' a) : Kp B' H H' := fun a o e n => k a o e (n.imp (fun z q => z (h a q)) id)
theorem Kp.lst {B : Addr → Prop} {H : Hp} {p : Addr} {o : HO} (h : B p) : (∃ xs, H p = some (.lst xs)) → Kp B H (upd H p o) := fun ⟨xs, e⟩ a u ha n => by
  by_cases q : a = p
  · subst q
    rw [e] at ha
    cases ha
    rcases n with n | n
    · exact (n h).elim
    · exact (n xs rfl).elim
  · rw [upd_ne q]
    exact ha

/-! ### what a value stands for; A: lists that it must not reach -/
def StL (K : PySem.W.Frag) (a : Addr) (xs : List V) : Prop :=
  ∃ (o : Obj) (its : Array Value) (n : Nat), K.lookup a = some o ∧ o.cls = .type "list" ∧ o.dict = none ∧ o.data = .seq its n ∧ its.size ≤ sizeLine ∧ Vals xs its.toList
def LstAt (K : PySem.W.Frag) (H : Hp) (A : Addr → Prop) (a : Addr) (xs : List V) : Prop := ¬ A a ∧ H a = some (.lst xs)
/-- a list that may be the world's -/
def FzL (K : PySem.W.Frag) (H : Hp) (A : Addr → Prop) (a : Addr) (xs : List V) : Prop :=
  (¬ A a ∧ H a = some (.lst xs)) ∨ (∃ o, H a = some (.frz o (.lst xs))) ∨ StL K a xs
theorem LstAt.seq {K : PySem.W.Frag} {H : Hp} {A : Addr → Prop} {a : Addr} {xs : List V} (h : LstAt K H A a xs) : SqL K H a xs := .inl (.inl h.2)
theorem LstAt.kp {K : PySem.W.Frag} {H H' : Hp} {A A' B : Addr → Prop} {a : Addr} {xs : List V} (h : LstAt K H A a xs) (k : Kp B H H') (hb : ∀ a, B a → A a) (ha : ∀ a, H a ≠ none → A' a → A a) : LstAt K H' A' a xs :=
  ⟨fun q => h.1 (ha a (by rw [h.2]; simp) q), k a _ h.2 (.inl fun q => h.1 (hb a q))⟩
theorem FzL.seq {K : PySem.W.Frag} {H : Hp} {A : Addr → Prop} {a : Addr} {xs : List V} (h : FzL K H A a xs) : SqL K H a xs := by
  rcases h with ⟨_, h⟩ | h | h
  · exact .inl (.inl h)
  · exact .inl (.inr h)
  · exact .inr h
theorem FzL.kp {K : PySem.W.Frag} {H H' : Hp} {A A' B : Addr → Prop} {a : Addr} {xs : List V} (h : FzL K H A a xs) (k : Kp B H H') (hb : ∀ a, B a → A a) (ha : ∀ a, H a ≠ none → A' a → A a) : FzL K H' A' a xs := by
  rcases h with ⟨n, h⟩ | ⟨o, h⟩ | h
  · exact .inl ⟨fun q => n (ha a (by rw [h]; simp) q), k a _ h (.inl fun q => n (hb a q))⟩
  · exact .inr (.inl ⟨o, k a _ h (.inr fun xs => by simp)⟩)
  · exact .inr (.inr h)
theorem sqT_kp {K : PySem.W.Frag} {H H' : Hp} {B : Addr → Prop} {a : Addr} {xs : List V} (h : SqT K H a xs) (k : Kp B H H') : SqT K H' a xs := by
  rcases h with (h | ⟨o, h⟩) | h
  · exact .inl (.inl (k a _ h (.inr fun xs => by simp)))
  · exact .inl (.inr ⟨o, k a _ h (.inr fun xs => by simp)⟩)
  · exact .inr h
mutual
inductive Dq (K : PySem.W.Frag) (H : Hp) (A : Addr → Prop) : V → D → Prop
  | non : Dq K H A .non .non
  | bl (b : Bool) : Dq K H A (.bl b) (.bl b)
  | int (i : Int) : Dq K H A (.int i) (.int i)
  | str (s : List Nat) : Dq K H A (.str ⟨s.toArray⟩) (.str s)
  | tup {a : Addr} {xs : List V} {ds : List D} : SqT K H a xs → DqA K H A xs ds → Dq K H A (.ref a) (.tup ds)
  | lst {a : Addr} {xs : List V} {ds : List D} : LstAt K H A a xs → DqA K H A xs ds → Dq K H A (.ref a) (.lst ds)
  | fl {a : Addr} {xs : List V} {ds : List D} : FzL K H A a xs → DqA K H A xs ds → Dq K H A (.ref a) (.fl ds)
  | dct {a : Addr} : H a = some (.dK []) → Dq K H A (.ref a) .dct
inductive DqA (K : PySem.W.Frag) (H : Hp) (A : Addr → Prop) : List V → List D → Prop
  | nil : DqA K H A [] []
  | cons {v : V} {vs : List V} {d : D} {ds : List D} : Dq K H A v d → DqA K H A vs ds → DqA K H A (v :: vs) (d :: ds)
end
section
variable {K : PySem.W.Frag} {H H' : Hp} {A A' B : Addr → Prop}
mutual
theorem Dq.kp (k : Kp B H H') (hb : ∀ a, B a → A a) (ha : ∀ a, H a ≠ none → A' a → A a) : ∀ (d : D) {v : V}, Dq K H A v d → Dq K H' A' v d
  | .non, _, h => by cases h; exact .non
  | .bl b, _, h => by cases h; exact .bl b
  | .int i, _, h => by cases h; exact .int i
  | .str s, _, h => by cases h; exact .str s
  | .tup ds, _, h => by
    cases h with
    | tup s a => exact .tup (sqT_kp s k) (DqA.kp k hb ha ds a)
  | .lst ds, _, h => by
    cases h with
    | lst s a => exact .lst (s.kp k hb ha) (DqA.kp k hb ha ds a)
  | .fl ds, _, h => by
    cases h with
    | fl s a => exact .fl (s.kp k hb ha) (DqA.kp k hb ha ds a)
  | .dct, _, h => by
    cases h with
    | dct s => exact .dct (k _ _ s (.inr fun xs => by simp))
theorem DqA.kp (k : Kp B H H') (hb : ∀ a, B a → A a) (ha : ∀ a, H a ≠ none → A' a → A a) : ∀ (ds : List D) {vs : List V}, DqA K H A vs ds → DqA K H' A' vs ds
  | [], _, h => by cases h; exact .nil
  | d :: ds, _, h => by
    cases h with
    | cons h1 h2 => exact .cons (Dq.kp k hb ha d h1) (DqA.kp k hb ha ds h2)
end
mutual
theorem Dq.dp : ∀ (d : D) {v : V}, Dq K H A v d → d.py.canLay0 = true → Dp K H v d.py
  | .non, _, h, _ => by cases h; exact .non
  | .bl b, _, h, _ => by cases h; exact .bl b
  | .int i, _, h, _ => by cases h; exact .int i
  | .str s, _, h, _ => by cases h; exact .str _
  | .tup ds, _, h, q => by
    cases h with
    | tup s a => exact .tup s (DqA.dp ds a q)
  | .lst ds, _, h, q => by
    cases h with
    | lst s a => exact .lst s.seq (DqA.dp ds a q)
  | .fl ds, _, h, q => by
    cases h with
    | fl s a => exact .lst s.seq (DqA.dp ds a q)
  | .dct, _, h, q => by cases q
theorem DqA.dp : ∀ (ds : List D) {vs : List V}, DqA K H A vs ds → PyData.canLayAll0 (D.pys ds) = true → DpAll K H vs (D.pys ds)
  | [], _, h, _ => by cases h; exact .nil
  | d :: ds, _, h, q => by
    obtain ⟨q1, q2⟩ := Bool.and_eq_true_iff.mp (show (d.py.canLay0 && PyData.canLayAll0 (D.pys ds)) = true from q)
    cases h with
    | cons h1 h2 => exact .cons (Dq.dp d h1 q1) (DqA.dp ds h2 q2)
end
theorem Dq.ex {d : D} {v : V} (h : Dq K H A v d) (e : Ex H H') : Dq K H' A v d := Dq.kp (B := fun _ => False) e.kp (fun _ z => z.elim) (fun _ _ z => z) d h
theorem DqA.ex {ds : List D} {vs : List V} (h : DqA K H A vs ds) (e : Ex H H') : DqA K H' A vs ds := DqA.kp (B := fun _ => False) e.kp (fun _ z => z.elim) (fun _ _ z => z) ds h
theorem Dq.anti {d : D} {v : V} (h : Dq K H A v d) (ha : ∀ a, H a ≠ none → A' a → A a) : Dq K H A' v d := Dq.kp (B := fun _ => False) (Kp.refl H) (fun _ z => z.elim) ha d h
theorem DqA.anti {ds : List D} {vs : List V} (h : DqA K H A vs ds) (ha : ∀ a, H a ≠ none → A' a → A a) : DqA K H A' vs ds := DqA.kp (B := fun _ => False) (Kp.refl H) (fun _ z => z.elim) ha ds h
theorem Dq.sc {d : D} {v : V} (h : Dq K H A v d) (s : isSc d = true) : Dq K H' A' v d := by
  cases h with
  | non => exact .non
  | bl b => exact .bl b
  | int i => exact .int i
  | str x => exact .str x
  | tup _ _ => cases s
  | lst _ _ => cases s
  | fl _ _ => cases s
  | dct _ => cases s
theorem DqA.length : ∀ {ds : List D} {vs : List V}, DqA K H A vs ds → vs.length = ds.length
  | _, _, .nil => rfl
  | _, _, .cons _ h => congrArg Nat.succ h.length
theorem DqA.get : ∀ {ds : List D} {vs : List V} {i : Nat} {d : D}, DqA K H A vs ds → ds[i]? = some d → ∃ v, vs[i]? = some v ∧ Dq K H A v d
  | _, _, _, _, .nil, e => by simp at e
  | _, _, 0, _, .cons h _, e => by
    simp at e
    subst e
    exact ⟨_, rfl, h⟩
  | _, _, i + 1, d, .cons _ t, e => by
    obtain ⟨v, h1, h2⟩ := DqA.get (i := i) (d := d) t (by simpa using e)
    exact ⟨v, by simpa using h1, h2⟩
theorem DqA.getV : ∀ {ds : List D} {vs : List V} {i : Nat} {v : V}, DqA K H A vs ds → vs[i]? = some v → ∃ d, ds[i]? = some d ∧ Dq K H A v d
  | _, _, _, _, .nil, e => by simp at e
  | _, _, 0, _, .cons h _, e => by
    simp at e
    subst e
    exact ⟨_, rfl, h⟩
  | _, _, i + 1, d, .cons _ t, e => by
    obtain ⟨v, h1, h2⟩ := DqA.getV (i := i) t (by simpa using e)
    exact ⟨v, by simpa using h1, h2⟩
theorem DqA.append : ∀ {ds es : List D} {vs ws : List V}, DqA K H A vs ds → DqA K H A ws es → DqA K H A (vs ++ ws) (ds ++ es)
  | _, _, _, _, .nil, h => h
  | _, _, _, _, .cons h t, g => .cons h (t.append g)
theorem DqA.take : ∀ {ds : List D} {vs : List V} (n : Nat), DqA K H A vs ds → DqA K H A (vs.take n) (ds.take n)
  | _, _, 0, _ => .nil
  | _, _, n + 1, .nil => .nil
  | _, _, n + 1, .cons h t => .cons h (t.take n)
theorem DqA.drop : ∀ {ds : List D} {vs : List V} (n : Nat), DqA K H A vs ds → DqA K H A (vs.drop n) (ds.drop n)
  | _, _, 0, h => h
  | _, _, n + 1, .nil => .nil
  | _, _, n + 1, .cons h t => t.drop n
theorem DqA.set : ∀ {ds : List D} {vs : List V} (n : Nat) {v : V} {d : D}, DqA K H A vs ds → Dq K H A v d → DqA K H A (vs.set n v) (ds.set n d)
  | _, _, _, _, _, .nil, _ => .nil
  | _, _, 0, _, _, .cons h t, q => .cons q t
  | _, _, n + 1, _, _, .cons h t, q => .cons h (t.set n q)
theorem DqA.ints : ∀ {ns : List Int} {vs : List V}, DqA K H A vs (ns.map D.int) → vs = ns.map V.int
  | [], _, h => by cases h; rfl
  | n :: ns, _, h => by
    cases h with
    | cons h t =>
      cases h
      rw [t.ints]
      rfl
theorem DqA.bls : ∀ {ns : List Bool} {vs : List V}, DqA K H A vs (ns.map D.bl) → vs = ns.map V.bl
  | [], _, h => by cases h; rfl
  | n :: ns, _, h => by
    cases h with
    | cons h t =>
      cases h
      rw [t.bls]
      rfl
theorem DqA.strs : ∀ {ns : List (List Nat)} {vs : List V}, DqA K H A vs (ns.map D.str) → vs = (ns.map fun s => (⟨s.toArray⟩ : Str)).map V.str
  | [], _, h => by cases h; rfl
  | n :: ns, _, h => by
    cases h with
    | cons h t =>
      cases h
      rw [t.strs]
      rfl
theorem DqA.flatten_replicate {ds : List D} {vs : List V} (h : DqA K H A vs ds) : ∀ n : Nat, DqA K H A (List.replicate n vs).flatten (List.replicate n ds).flatten
  | 0 => .nil
  | n + 1 => by
    rw [List.replicate_succ, List.replicate_succ, List.flatten_cons, List.flatten_cons]
    exact h.append (h.flatten_replicate n)
end

/-! ### slots -/
abbrev Rho := List (Option D)
/-- an exception: its class's name, its one field -/
structure Exn where
  cls : String
  fld : Option (String × D)
inductive Out (α : Type) where
  | ok (a : α) (r : Rho) | exc (x : Exn) (r : Rho) | bad
def Out.bind {α β : Type} (x : Out α) (k : α → Rho → Out β) : Out β := match x with
  | .ok a r => k a r
  | .exc x r => .exc x r
  | .bad => .bad
theorem Out.bind_ok {α β : Type} (a : α) (r : Rho) (k : α → Rho → Out β) : (Out.ok a r).bind k = k a r := rfl
theorem Out.bind_exc {α β : Type} (a : Exn) (r : Rho) (k : α → Rho → Out β) : (Out.exc a r).bind k = .exc a r := rfl
theorem Out.bind_bad {α β : Type} (k : α → Rho → Out β) : (Out.bad : Out α).bind k = .bad := rfl
def ofO {α : Type} (o : Option α) (r : Rho) : Out α := match o with
  | some a => .ok a r
  | none => .bad
abbrev FE := Rho → Out D
abbrev FT := Rho → Out Bool
abbrev FA := Rho → Out (List D)

/-- slot i holds the list at a -/
def OwnAt (σ : L2.St) (ρ : Rho) (i : Nat) (a : Addr) : Prop := (∃ d, ρ[i]? = some (some d)) ∧ σ[i]? = some (some (.ref a))
def Own (M : List Nat) (σ : L2.St) (ρ : Rho) (a : Addr) : Prop := ∃ i ∈ M, OwnAt σ ρ i a
/-- the surroundings: A: the callers' lists; R: a list of the caller's that this def changes (its first argument); H0: the heap at the entry -/
structure Gh where
  A : Addr → Prop
  R : Addr → Prop
  H0 : Hp
  hA : ∀ a, A a → H0 a ≠ none
  r0 : Option Addr := none
def Avs (M : List Nat) (g : Gh) (σ : L2.St) (ρ : Rho) : Addr → Prop := fun a => g.A a ∨ Own M σ ρ a
structure Rep (K : PySem.W.Frag) (M : List Nat) (g : Gh) (σ : L2.St) (H : Hp) (ρ : Rho) : Prop where
  len : σ.length = ρ.length
  imm : ∀ i d, i ∉ M → ρ[i]? = some (some d) → ∃ v, σ[i]? = some (some v) ∧ Dq K H (Avs M g σ ρ) v d
  own : ∀ i d, i ∈ M → ρ[i]? = some (some d) → ∃ a vs ds, d = .lst ds ∧ σ[i]? = some (some (.ref a)) ∧ H a = some (.lst vs) ∧ DqA K H (Avs M g σ ρ) vs ds ∧ (g.H0 a = none ∨ (g.R a ∧ i = 0))
  dis : ∀ i j a, i ∈ M → j ∈ M → OwnAt σ ρ i a → OwnAt σ ρ j a → i = j
  ex : Kp g.R g.H0 H
  dom : ∀ a, g.H0 a ≠ none → H a ≠ none
  row : ∀ a, g.r0 = some a → 0 ∈ M ∧ σ[0]? = some (some (.ref a))

/-- c: reaches no list of a slot; o: may be a slot's list itself; u: may reach one -/
inductive Lv where
  | c | o | u
  deriving DecidableEq
def Dv (K : PySem.W.Frag) (M : List Nat) (g : Gh) (σ : L2.St) (H : Hp) (ρ : Rho) : Lv → V → D → Prop
  | .c, v, d => Dq K H (Avs M g σ ρ) v d
  | .o, v, d => Dq K H (Avs M g σ ρ) v d ∨ ∃ a vs ds, v = .ref a ∧ d = .lst ds ∧ ¬ g.A a ∧ H a = some (.lst vs) ∧ DqA K H (Avs M g σ ρ) vs ds
  | .u, v, d => Dq K H g.A v d

theorem Rep.avs {K : PySem.W.Frag} {M : List Nat} {g : Gh} {σ : L2.St} {H : Hp} {ρ : Rho} (R : Rep K M g σ H ρ) (a : Addr) (h : Avs M g σ ρ a) : H a ≠ none := by
  rcases h with h | ⟨i, hi, ⟨d, hd⟩, hs⟩
  · exact R.dom a (g.hA a h)
  · obtain ⟨b, vs, ds, _, h1, h2, _⟩ := R.own i d hi hd
    rw [hs] at h1
    cases h1
    rw [h2]
    exact fun z => by cases z
/-- how an exception lies -/
def XRep (K : PySem.W.Frag) (H : Hp) (x : Exn) (c : Value) (dd : Option Addr) : Prop :=
  c = .ref (He.ga K x.cls) ∧ match x.fld with
    | none => dd = none
    | some (f, d) => ∃ a v, dd = some a ∧ H a = some (.xd [((f : Str), v)]) ∧ Dq K H (fun _ => False) v d

section
variable (K : PySem.W.Frag) (M : List Nat) (W : WX)
def PostX (g : Gh) (σ : L2.St) (x : Exn) (ρ : Rho) : Prop := ∀ c dd H', Rep K M g σ H' ρ → XRep K H' x c dd → W c dd σ H'
def PostG {α β : Type} (P : Gh → L2.St → Hp → Rho → α → β → Prop) (pu : Bool) (g : Gh) (σ : L2.St) (H : Hp) (ρ : Rho) (o : Out β) (Q : α → Hp → Prop) : Prop := match o with
  | .ok d ρ' => ∀ v H', Rep K M g σ H' ρ' → Own M σ ρ' = Own M σ ρ → Kp (Own M σ ρ) H H' → (pu = true → ρ' = ρ ∧ Ex H H') → P g σ H' ρ' v d → Q v H'
  | .exc x ρ' => PostX K M W g σ x ρ'
  | .bad => False
def SoundG {α β : Type} (P : Gh → L2.St → Hp → Rho → α → β → Prop) (pu : Bool) (t : L2.St → Hp → (α → Hp → Prop) → Prop) (f : Rho → Out β) : Prop :=
  ∀ g σ H ρ Q, Rep K M g σ H ρ → PostG K M W P pu g σ H ρ (f ρ) Q → t σ H Q
def PV (lv : Lv) : Gh → L2.St → Hp → Rho → V → D → Prop := fun g σ H ρ v d => Dv K M g σ H ρ lv v d
def PB : Gh → L2.St → Hp → Rho → Bool → Bool → Prop := fun _ _ _ _ b c => b = c
def PL (lv : Lv) : Gh → L2.St → Hp → Rho → List V → List D → Prop := fun g σ H ρ vs ds => match lv with
  | .c => DqA K H (Avs M g σ ρ) vs ds
  | _ => DqA K H g.A vs ds
/-- an expression, a test, an argument list: its rule's reading holds where f gives an answer -/
structure EvD (X : Cx) (lv : Lv) (pu : Bool) (e : Expr) (t : TE) (f : FE) : Prop where
  pe : PE X e t
  so : SoundG K M W (PV K M lv) pu t f
structure EvT (X : Cx) (pu : Bool) (e : Expr) (t : TT) (f : FT) : Prop where
  pe : PT X e t
  so : SoundG K M W (PB) pu t f
structure EvA (X : Cx) (lv : Lv) (pu : Bool) (es : List Expr) (t : TA) (f : FA) : Prop where
  pe : PA X es t
  so : SoundG K M W (PL K M lv) pu t f
end

section
variable {K : PySem.W.Frag} {M : List Nat} {W : WX} {X : Cx} {g : Gh} {σ : L2.St} {H H1 H2 : Hp} {ρ ρ1 ρ2 : Rho}
theorem Avs.eq (h : Own M σ ρ1 = Own M σ ρ) : Avs M g σ ρ1 = Avs M g σ ρ := by
  unfold Avs
  rw [h]
theorem Avs.eq' {σ1 : L2.St} (h : Own M σ1 ρ1 = Own M σ ρ) : Avs M g σ1 ρ1 = Avs M g σ ρ := by
  unfold Avs
  rw [h]
theorem Rep.kpH (R : Rep K M g σ H ρ) (e : Ex H H1) : Rep K M g σ H1 ρ where
  len := R.len
  imm := fun i d hi h => by
    obtain ⟨v, h1, h2⟩ := R.imm i d hi h
    exact ⟨v, h1, h2.ex e⟩
  own := fun i d hi h => by
    obtain ⟨a, vs, ds, h1, h2, h3, h4, h5⟩ := R.own i d hi h
    exact ⟨a, vs, ds, h1, h2, e _ _ h3, h4.ex e, h5⟩
  dis := R.dis
  ex := R.ex.trans e.kp
  dom := fun a h q => R.dom a h (e.back q)
  row := R.row
/-- the value of an operand, behind what follows it -/
theorem Dv.keep {lv : Lv} {v : V} {d : D} (h : Dv K M g σ H ρ lv v d) (k : Kp (Own M σ ρ) H H1) (ow : Own M σ ρ1 = Own M σ ρ) (p : lv = .c ∨ (ρ1 = ρ ∧ Ex H H1)) : Dv K M g σ H1 ρ1 lv v d := by
  rcases p with rfl | ⟨rfl, e⟩
  · show Dq K H1 (Avs M g σ ρ1) v d
    rw [Avs.eq ow]
    exact Dq.kp k (fun a z => .inr z) (fun _ _ z => z) d h
  · cases lv with
    | c => exact Dq.ex (show Dq K H (Avs M g σ ρ1) v d from h) e
    | u => exact Dq.ex (show Dq K H g.A v d from h) e
    | o =>
      rcases h with h | ⟨a, vs, ds, h1, h2, h3, h4, h5⟩
      · exact .inl (h.ex e)
      · exact .inr ⟨a, vs, ds, h1, h2, h3, e _ _ h4, h5.ex e⟩
theorem Dv.u {lv : Lv} {v : V} {d : D} (h : Dv K M g σ H ρ lv v d) : Dq K H g.A v d := by
  cases lv with
  | c => exact Dq.anti (show Dq K H (Avs M g σ ρ) v d from h) fun a _ z => .inl z
  | u => exact h
  | o =>
    rcases h with h | ⟨a, vs, ds, rfl, rfl, h3, h4, h5⟩
    · exact h.anti fun a _ z => .inl z
    · exact .lst ⟨h3, h4⟩ (h5.anti fun a _ z => .inl z)
theorem Dv.c {lv : Lv} {v : V} {d : D} (hl : lv = .c) (h : Dv K M g σ H ρ lv v d) : Dq K H (Avs M g σ ρ) v d := by
  subst hl
  exact h
theorem Dv.ofSc {lv lv' : Lv} {v : V} {d : D} (h : Dv K M g σ H ρ lv v d) (s : isSc d = true) : Dv K M g σ H1 ρ1 lv' v d := by
  have h := h.u
  cases lv' with
  | c => exact h.sc s
  | u => exact h.sc s
  | o => exact .inl (h.sc s)
theorem Dv.toC {lv : Lv} {v : V} {d : D} (h : Dq K H (Avs M g σ ρ) v d) : Dv K M g σ H ρ lv v d := by
  cases lv with
  | c => exact h
  | u => exact h.anti fun a _ z => .inl z
  | o => exact .inl h

/-- the way a sound part is used -/
theorem SoundG.use {α β : Type} {P : Gh → L2.St → Hp → Rho → α → β → Prop} {pu : Bool} {t : L2.St → Hp → (α → Hp → Prop) → Prop} {f : Rho → Out β} (s : SoundG K M W P pu t f) {Q : α → Hp → Prop} (R : Rep K M g σ H ρ)
    (hb : f ρ ≠ .bad) (hx : ∀ x ρ', f ρ = .exc x ρ' → PostX K M W g σ x ρ')
    (hk : ∀ d ρ' v H', f ρ = .ok d ρ' → Rep K M g σ H' ρ' → Own M σ ρ' = Own M σ ρ → Kp (Own M σ ρ) H H' → (pu = true → ρ' = ρ ∧ Ex H H') → P g σ H' ρ' v d → Q v H') : t σ H Q := by
  refine s g σ H ρ Q R ?_
  cases e : f ρ with
  | bad => exact hb e
  | exc x ρ' => exact hx x ρ' e
  | ok d ρ' => exact fun v H' => hk d ρ' v H' e
/-- from (H, ρ) to (H1, ρ1): what has been gone -/
structure Gone (M : List Nat) (σ : L2.St) (pu : Bool) (H : Hp) (ρ : Rho) (H1 : Hp) (ρ1 : Rho) : Prop where
  ow : Own M σ ρ1 = Own M σ ρ
  kp : Kp (Own M σ ρ) H H1
  pu : pu = true → ρ1 = ρ ∧ Ex H H1
/-- two parts in a row; the end is wished for from (H0, ρ0) on -/
theorem SoundG.bind {α β γ δ : Type} {P : Gh → L2.St → Hp → Rho → α → β → Prop} {P2 : Gh → L2.St → Hp → Rho → γ → δ → Prop} {pu pu2 : Bool} {H0 : Hp} {ρ0 : Rho} {t : L2.St → Hp → (α → Hp → Prop) → Prop} {f : Rho → Out β} {k : β → Rho → Out δ} (s : SoundG K M W P pu t f) {Q : γ → Hp → Prop} {q : α → Hp → Prop} (R : Rep K M g σ H ρ)
    (h : PostG K M W P2 pu2 g σ H0 ρ0 ((f ρ).bind k) Q)
    (hk : ∀ d ρ' v H', f ρ = .ok d ρ' → Rep K M g σ H' ρ' → Gone M σ pu H ρ H' ρ' → P g σ H' ρ' v d → PostG K M W P2 pu2 g σ H0 ρ0 (k d ρ') Q → q v H') : t σ H q := by
  refine s.use R (fun e => ?_) (fun x ρ' e => ?_) (fun d ρ' v H' e R' ow kp p dv => hk d ρ' v H' e R' ⟨ow, kp, p⟩ dv ?_)
  · rw [e] at h
    exact h
  · rw [e] at h
    exact h
  · rw [e] at h
    exact h
theorem Gone.refl {pu : Bool} : Gone M σ pu H ρ H ρ := ⟨rfl, Kp.refl H, fun _ => ⟨rfl, Ex.refl H⟩⟩
theorem Gone.trans {p1 p2 : Bool} (a : Gone M σ p1 H ρ H1 ρ1) (b : Gone M σ p2 H1 ρ1 H2 ρ2) : Gone M σ (p1 && p2) H ρ H2 ρ2 :=
  ⟨b.ow.trans a.ow, a.kp.trans (by rw [← a.ow]; exact b.kp), fun q => by
    obtain ⟨q1, q2⟩ := Bool.and_eq_true_iff.mp q
    obtain ⟨e1, x1⟩ := a.pu q1
    obtain ⟨e2, x2⟩ := b.pu q2
    exact ⟨e2.trans e1, x1.trans x2⟩⟩
theorem Gone.ex {p : Bool} (a : Gone M σ p H ρ H1 ρ1) (e : Ex H1 H2) : Gone M σ p H ρ H2 ρ1 := ⟨a.ow, a.kp.trans e.kp, fun q => ⟨(a.pu q).1, (a.pu q).2.trans e⟩⟩
theorem Gone.weak {p p' : Bool} (a : Gone M σ p H ρ H1 ρ1) (h : p' = true → p = true) : Gone M σ p' H ρ H1 ρ1 := ⟨a.ow, a.kp, fun q => a.pu (h q)⟩
theorem PostG.fin {α β : Type} {P : Gh → L2.St → Hp → Rho → α → β → Prop} {pu : Bool} {d : β} {v : α} {Q : α → Hp → Prop} (h : PostG K M W P pu g σ H ρ (.ok d ρ1) Q) (R : Rep K M g σ H1 ρ1) (w : Gone M σ pu H ρ H1 ρ1) (p : P g σ H1 ρ1 v d) : Q v H1 :=
  h v H1 R w.ow w.kp w.pu p
theorem Dv.gone {lv : Lv} {p : Bool} {v : V} {d : D} (h : Dv K M g σ H ρ lv v d) (w : Gone M σ p H ρ H1 ρ1) (q : lv = .c ∨ p = true) : Dv K M g σ H1 ρ1 lv v d := h.keep w.kp w.ow (q.imp id w.pu)
end
end DL

namespace DL
open PySem PySem.Spec PyProof.Rows L2

/-! ### operations on data -/
abbrev lim : Nat := 1000000
theorem lim_le {n : Nat} (h : n ≤ lim) : n ≤ sizeLine := Nat.le_trans h (by decide)
theorem lim_lt {n : Nat} (h : n < lim) : n < sizeLine := Nat.lt_of_lt_of_le h (by decide)
def opAdd : D → D → Option D
  | .int i, .int j => some (.int (i + j))
  | .str a, .str b => if a.length + b.length ≤ lim then some (.str (a ++ b)) else none
  | .tup a, .tup b => if a.length + b.length ≤ lim then some (.tup (a ++ b)) else none
  | .lst a, .lst b => if a.length + b.length ≤ lim then some (.lst (a ++ b)) else none
  | _, _ => none
def opSub : D → D → Option D
  | .int i, .int j => some (.int (i - j))
  | _, _ => none
def opMul : D → D → Option D
  | .int i, .int j => if i.natAbs < 2 ^ 64 ∨ j.natAbs < 2 ^ 64 then some (.int (i * j)) else none
  | .str a, .int n => if n.natAbs ≤ lim ∧ a.length * n.toNat ≤ lim then some (.str (List.replicate n.toNat a).flatten) else none
  | _, _ => none
def opDiv : D → D → Option D
  | .int i, .int j => if j ≠ 0 ∧ j.natAbs < 1073741824 then some (.int (i.fdiv j)) else none
  | _, _ => none
def opMod : D → D → Option D
  | .int i, .int j => if j ≠ 0 then some (.int (i.fmod j)) else none
  | _, _ => none
def opPow : D → D → Option D
  | .int i, .int j => if j.natAbs ≤ 1000 ∧ 0 ≤ j ∧ i.natAbs < 2 ^ 64 then some (.int (i ^ j.toNat)) else none
  | _, _ => none
def opCmp (p : Int → Int → Bool) : D → D → Option D
  | .int i, .int j => some (.bl (p i j))
  | _, _ => none
def okD (d : D) : Bool := SeqAt.shaped d.py
def opEq (d e : D) : Option D := if okD d && okD e then some (.bl (PyData.eqv d.py e.py)) else none
def opNe (d e : D) : Option D := if okD d && okD e then some (.bl (!PyData.eqv d.py e.py)) else none
def isNon : D → Bool
  | .non => true
  | _ => false
def opIs (d e : D) : Option D := match e with
  | .non => some (.bl (isNon d))
  | _ => none
def opIsnt (d e : D) : Option D := match e with
  | .non => some (.bl (!isNon d))
  | _ => none
def eqF : D → D → Bool
  | .non, .non => true
  | .bl a, .bl b => a == b
  | .bl a, .int b => (if a then 1 else 0) == b
  | .int a, .bl b => a == (if b then 1 else 0)
  | .int a, .int b => a == b
  | .str a, .str b => a == b
  | _, _ => false
def inF (x : D) : D → Option Bool
  | .str z => match x with
    | .str [c] => some (decide (c ∈ z))
    | _ => none
  | .tup ys => if isSc x && ys.all isSc then some (ys.any fun y => eqF y x) else none
  | .lst ys => if isSc x && ys.all isSc then some (ys.any fun y => eqF y x) else if okD x && okD (.lst ys) then some (ys.any fun y => PyData.eqv y.py x.py) else none
  | _ => none
def opIn (d e : D) : Option D := (inF d e).map .bl
def opNotIn (d e : D) : Option D := (inF d e).map fun b => .bl (!b)
def opIx : D → D → Option D
  | .tup xs, .int i => atI xs i
  | .lst xs, .int i => atI xs i
  | .fl xs, .int i => atI xs i
  | .str s, .int i => if s.length ≤ lim then (atI s i).map fun c => .str [c] else none
  | _, _ => none
def cutL {α : Type} (xs : List α) (lo hi : Option Int) : List α := (xs.drop (HT.sIx xs.length 0 lo)).take (HT.sIx xs.length xs.length hi - HT.sIx xs.length 0 lo)
def opSl (d : D) (lo hi : Option Int) : Option D := match d with
  | .str s => if s.length ≤ lim then some (.str (cutL s lo hi)) else none
  | .lst xs => some (.lst (cutL xs lo hi))
  | .tup xs => some (.tup (cutL xs lo hi))
  | _ => none
def unNeg : D → Option D
  | .int i => some (.int (-i))
  | _ => none
def unNot : D → Option D
  | .bl b => some (.bl (!b))
  | _ => none

/-! ### a rule's reading asks no more than the operation gives -/
def OpF (K : PySem.W.Frag) (r : R2) (op : D → D → Option D) : Prop :=
  ∀ (H : Hp) (A : Addr → Prop) (x y : V) (d e z : D) (Q : VK), (∀ a, A a → H a ≠ none) → Dq K H A x d → Dq K H A y e → op d e = some z → (∀ v H', Ex H H' → Dq K H' A v z → Q v H') → r x y H Q
def UnF (K : PySem.W.Frag) (r : V → Hp → VK → Prop) (op : D → Option D) : Prop :=
  ∀ (H : Hp) (A : Addr → Prop) (x : V) (d z : D) (Q : VK), Dq K H A x d → op d = some z → (∀ v H', Ex H H' → Dq K H' A v z → Q v H') → r x H Q
def orR (r r' : R2) : R2 := fun x y H Q => r x y H Q ∨ r' x y H Q
theorem opR_or {X : Cx} {f : Value → Value → Sem Value} {r r' : R2} (h : OpR X f r) (h' : OpR X f r') : OpR X f (orR r r') := by
  intro pins s σ H x y u v Q I rx ry q
  rcases q with q | q
  · exact h pins s σ H x y u v Q I rx ry q
  · exact h' pins s σ H x y u v Q I rx ry q
def orS (r r' : V → Option Int → Option Int → Hp → VK → Prop) : V → Option Int → Option Int → Hp → VK → Prop := fun x lo hi H Q => r x lo hi H Q ∨ r' x lo hi H Q
theorem slR_or {X : Cx} {r r' : V → Option Int → Option Int → Hp → VK → Prop} (h : SlR X r) (h' : SlR X r') : SlR X (orS r r') := by
  intro pins s σ H x v vl vu lo hi sl Q I rx hs pl pu q
  rcases q with q | q
  · exact h pins s σ H x v vl vu lo hi sl Q I rx hs pl pu q
  · exact h' pins s σ H x v vl vu lo hi sl Q I rx hs pl pu q

section
variable {K : PySem.W.Frag} {H : Hp} {A : Addr → Prop}
theorem dq_new {p : Addr} {o : HO} {ds : List D} {vs : List V} (h : DqA K H A vs ds) (np : H p = none) : DqA K (upd H p o) A vs ds := h.ex (Ex.new np)
theorem dq_tup {p : Addr} {ds : List D} {vs : List V} (h : DqA K H A vs ds) (np : H p = none) : Dq K (upd H p (.tup vs)) A (.ref p) (.tup ds) := .tup (.inl (.inl upd_same)) (dq_new h np)
theorem dq_lst {p : Addr} {ds : List D} {vs : List V} (h : DqA K H A vs ds) (np : H p = none) (na : ¬ A p) : Dq K (upd H p (.lst vs)) A (.ref p) (.lst ds) := .lst ⟨na, upd_same⟩ (dq_new h np)
end

def rAddI : R2 := rI0 fun i j => .int (i + j)
def rAddS : R2 := fun x y H Q => ∃ i j, x = .str i ∧ y = .str j ∧ i.length + j.length ≤ sizeLine ∧ Q (.str (i ++ j)) H
def rAdd3 (K : PySem.W.Frag) : R2 := orR rAddI (orR rAddS (orR (rCatA K) rCat))
theorem op_add3 {X : Cx} : OpR X (binaryOp .Add) (rAdd3 X.K) := opR_or op_add (opR_or op_add_str (opR_or op_catA op_cat))
theorem str_app (a b : List Nat) : (⟨a.toArray⟩ : Str) ++ (⟨b.toArray⟩ : Str) = ⟨(a ++ b).toArray⟩ := by
  show (⟨a.toArray ++ b.toArray⟩ : Str) = _
  rw [← List.append_toArray]
theorem of_add {K : PySem.W.Frag} : OpF K (rAdd3 K) opAdd := by
  intro H A x y d e z Q hA hx hy ho q
  cases hx with
  | int i =>
    cases hy with
    | int j =>
      cases ho
      exact .inl ⟨i, j, rfl, rfl, q _ _ (Ex.refl H) (.int _)⟩
    | _ => cases ho
  | str a =>
    cases hy with
    | str b =>
      unfold opAdd at ho
      simp only at ho
      split at ho
      · rename_i hl
        cases ho
        refine .inr (.inl ⟨_, _, rfl, rfl, lim_le ?_, ?_⟩)
        · show a.toArray.size + b.toArray.size ≤ lim
          simpa using hl
        · rw [str_app]
          exact q _ _ (Ex.refl H) (.str _)
      · cases ho
    | _ => cases ho
  | tup sa aa =>
    cases hy with
    | tup sb ab =>
      rename_i a xs ds b ys es
      unfold opAdd at ho
      simp only at ho
      split at ho
      · rename_i hl
        cases ho
        refine .inr (.inr (.inl ⟨a, b, xs, ys, rfl, rfl, sa, sb, lim_le (by rw [aa.length, ab.length]; exact hl), fun h => ?_, fun h1 h2 => ?_, fun h1 h2 p np => ?_⟩))
        · subst h
          cases aa
          exact q _ _ (Ex.refl H) (.tup sb ab)
        · subst h2
          cases ab
          rw [List.append_nil] at q
          exact q _ _ (Ex.refl H) (.tup sa aa)
        · exact q _ _ (Ex.new np) (dq_tup (aa.append ab) np)
      · cases ho
    | _ => cases ho
  | lst sa aa =>
    cases hy with
    | lst sb ab =>
      rename_i a xs ds b ys es
      unfold opAdd at ho
      simp only at ho
      split at ho
      · rename_i hl
        cases ho
        exact .inr (.inr (.inr ⟨a, b, xs, ys, rfl, rfl, sa.2, sb.2, lim_le (by rw [aa.length, ab.length]; exact hl), fun p np => q _ _ (Ex.new np) (dq_lst (aa.append ab) np fun z => hA p z np)⟩))
      · cases ho
    | _ => cases ho
  | _ => cases hy <;> cases ho

def rSubI : R2 := rI0 fun i j => .int (i - j)
theorem of_sub {K : PySem.W.Frag} : OpF K rSubI opSub := by
  intro H A x y d e z Q hA hx hy ho q
  cases hx with
  | int i =>
    cases hy with
    | int j =>
      cases ho
      exact ⟨i, j, rfl, rfl, q _ _ (Ex.refl H) (.int _)⟩
    | _ => cases ho
  | _ => cases hy <;> cases ho
def rDivI : R2 := rI CDivN fun i j => .int (i.fdiv j)
theorem of_div {K : PySem.W.Frag} : OpF K rDivI opDiv := by
  intro H A x y d e z Q hA hx hy ho q
  cases hx with
  | int i =>
    cases hy with
    | int j =>
      unfold opDiv at ho
      simp only at ho
      split at ho
      · rename_i hj
        cases ho
        exact ⟨i, j, rfl, rfl, hj, q _ _ (Ex.refl H) (.int _)⟩
      · cases ho
    | _ => cases ho
  | _ => cases hy <;> cases ho
def rModI : R2 := rI (fun _ j => j ≠ 0) fun i j => .int (i.fmod j)
theorem of_mod {K : PySem.W.Frag} : OpF K rModI opMod := by
  intro H A x y d e z Q hA hx hy ho q
  cases hx with
  | int i =>
    cases hy with
    | int j =>
      unfold opMod at ho
      simp only at ho
      split at ho
      · rename_i hj
        cases ho
        exact ⟨i, j, rfl, rfl, hj, q _ _ (Ex.refl H) (.int _)⟩
      · cases ho
    | _ => cases ho
  | _ => cases hy <;> cases ho
def rPowI : R2 := rI CPow fun i j => .int (i ^ j.toNat)
theorem of_pow {K : PySem.W.Frag} : OpF K rPowI opPow := by
  intro H A x y d e z Q hA hx hy ho q
  cases hx with
  | int i =>
    cases hy with
    | int j =>
      unfold opPow at ho
      simp only at ho
      split at ho
      · rename_i hj
        cases ho
        exact ⟨i, j, rfl, rfl, ⟨hj.2.1, by omega, hj.2.2⟩, q _ _ (Ex.refl H) (.int _)⟩
      · cases ho
    | _ => cases ho
  | _ => cases hy <;> cases ho
def rCmpI (p : Int → Int → Bool) : R2 := rI0 fun i j => .bl (p i j)
theorem of_cmp {K : PySem.W.Frag} {p : Int → Int → Bool} : OpF K (rCmpI p) (opCmp p) := by
  intro H A x y d e z Q hA hx hy ho q
  cases hx with
  | int i =>
    cases hy with
    | int j =>
      cases ho
      exact ⟨i, j, rfl, rfl, q _ _ (Ex.refl H) (.bl _)⟩
    | _ => cases ho
  | _ => cases hy <;> cases ho
theorem of_eq {K : PySem.W.Frag} : OpF K (rEqD K) opEq := by
  intro H A x y d e z Q hA hx hy ho q
  unfold opEq at ho
  split at ho
  · rename_i h
    obtain ⟨h1, h2⟩ := Bool.and_eq_true_iff.mp h
    cases ho
    exact ⟨d.py, e.py, hx.dp _ (SeqAt.canLay_of_shaped h1), hy.dp _ (SeqAt.canLay_of_shaped h2), h1, h2, q _ _ (Ex.refl H) (.bl _)⟩
  · cases ho
theorem of_ne {K : PySem.W.Frag} : OpF K (rNeD K) opNe := by
  intro H A x y d e z Q hA hx hy ho q
  unfold opNe at ho
  split at ho
  · rename_i h
    obtain ⟨h1, h2⟩ := Bool.and_eq_true_iff.mp h
    cases ho
    exact ⟨d.py, e.py, hx.dp _ (SeqAt.canLay_of_shaped h1), hy.dp _ (SeqAt.canLay_of_shaped h2), h1, h2, q _ _ (Ex.refl H) (.bl _)⟩
  · cases ho
def rIsN : R2 := fun x y H Q => y = .non ∧ Q (.bl (decide (x = .non))) H
def rIsntN : R2 := fun x y H Q => y = .non ∧ Q (.bl (!decide (x = .non))) H
theorem dq_non {K : PySem.W.Frag} {H : Hp} {A : Addr → Prop} {x : V} {d : D} (h : Dq K H A x d) : decide (x = .non) = isNon d := by
  cases h <;> first | rfl | exact decide_eq_false (by simp)
theorem of_is {K : PySem.W.Frag} : OpF K rIsN opIs := by
  intro H A x y d e z Q hA hx hy ho q
  cases hy with
  | non =>
    cases ho
    refine ⟨rfl, ?_⟩
    rw [dq_non hx]
    exact q _ _ (Ex.refl H) (.bl _)
  | _ => cases ho
theorem of_isnt {K : PySem.W.Frag} : OpF K rIsntN opIsnt := by
  intro H A x y d e z Q hA hx hy ho q
  cases hy with
  | non =>
    cases ho
    refine ⟨rfl, ?_⟩
    rw [dq_non hx]
    exact q _ _ (Ex.refl H) (.bl _)
  | _ => cases ho

/-! in, not in -/
def rInSg (neg : Bool) : R2 := fun x y H Q => ∃ (c : Nat) (z : Str), x = .str ⟨#[c]⟩ ∧ y = .str z ∧ Q (.bl (if neg then !decide (c ∈ z.cps.toList) else decide (c ∈ z.cps.toList))) H
def rIn3 (K : PySem.W.Frag) : R2 := orR (fun x y H Q => ∃ (c : Nat) (z : Str), x = .str ⟨#[c]⟩ ∧ y = .str z ∧ Q (.bl (decide (c ∈ z.cps.toList))) H) (orR (rIn K false) (rInD K))
def rNotIn3 (K : PySem.W.Frag) : R2 := orR (fun x y H Q => ∃ (c : Nat) (z : Str), x = .str ⟨#[c]⟩ ∧ y = .str z ∧ Q (.bl (!decide (c ∈ z.cps.toList))) H) (orR (rIn K true) (rNotInD K))
theorem op_in3 {X : Cx} (hu : X.A.units + 65 < cLine) : OpR X (compareOp .In) (rIn3 X.K) := opR_or op_in_sign (opR_or op_in_seq (op_inD hu))
theorem op_notIn3 {X : Cx} (hu : X.A.units + 65 < cLine) : OpR X (compareOp .NotIn) (rNotIn3 X.K) := opR_or op_notIn_sign (opR_or op_notIn_seq (op_notInD hu))
section
variable {K : PySem.W.Frag} {H : Hp} {A : Addr → Prop}
theorem sc_flat {x : V} {d : D} (h : Dq K H A x d) (s : isSc d = true) : flatV x = true := by
  cases h <;> first | rfl | cases s
theorem sc_flats : ∀ {xs : List V} {ds : List D}, DqA K H A xs ds → ds.all isSc = true → xs.all flatV = true
  | _, _, .nil, _ => rfl
  | _, _, .cons h t, s => by
    obtain ⟨s1, s2⟩ := Bool.and_eq_true_iff.mp (show (isSc _ && List.all _ isSc) = true from s)
    show (flatV _ && List.all _ flatV) = true
    rw [sc_flat h s1, sc_flats t s2]
    rfl
theorem beq_str (a b : List Nat) : ((⟨a.toArray⟩ : Str) == ⟨b.toArray⟩) = (a == b) := by
  by_cases h : a = b
  · subst h
    simp
  · rw [beq_eq_false_iff_ne.mpr h]
    refine beq_eq_false_iff_ne.mpr fun z => h ?_
    injection z with z
    simpa using congrArg Array.toList z
theorem eqF_eqV {x y : V} {d e : D} (h : Dq K H A x d) (k : Dq K H A y e) (s1 : isSc d = true) (s2 : isSc e = true) : eqV x y = eqF d e := by
  cases h <;> first | (cases s1; done) | (cases k <;> first | (cases s2; done) | rfl | exact beq_str _ _)
theorem anyF {x : V} {d : D} (h : Dq K H A x d) (s : isSc d = true) : ∀ {ys : List V} {es : List D}, DqA K H A ys es → es.all isSc = true → inV x ys = es.any fun y => eqF y d
  | _, _, .nil, _ => rfl
  | _, _, .cons k t, q => by
    obtain ⟨q1, q2⟩ := Bool.and_eq_true_iff.mp (show (isSc _ && List.all _ isSc) = true from q)
    show (eqV _ x || inV x _) = (eqF _ d || List.any _ _)
    rw [eqF_eqV k h q1 s, anyF h s t q2]
theorem any_py (d : D) : ∀ ys : List D, (D.pys ys).any (fun z => PyData.eqv z d.py) = ys.any fun y => PyData.eqv y.py d.py
  | [] => rfl
  | y :: ys => by
    show (PyData.eqv y.py d.py || (D.pys ys).any fun z => PyData.eqv z d.py) = _
    rw [any_py d ys]
    rfl
end
theorem in_core {K : PySem.W.Frag} {H : Hp} {A : Addr → Prop} {x y : V} {d e : D} {b : Bool} (hx : Dq K H A x d) (hy : Dq K H A y e) (ho : inF d e = some b) :
    (∃ (c : Nat) (z : Str), x = .str ⟨#[c]⟩ ∧ y = .str z ∧ decide (c ∈ z.cps.toList) = b) ∨ (∃ p xs, y = .ref p ∧ (SqL K H p xs ∨ SqT K H p xs) ∧ flatV x = true ∧ xs.all flatV = true ∧ inV x xs = b) ∨
    (∃ d' ds', Dp K H x d' ∧ Dp K H y (.list ds') ∧ SeqAt.shaped d' = true ∧ SeqAt.shaped (.list ds') = true ∧ (ds'.any fun z => PyData.eqv z d') = b) := by
  cases hy with
  | str z =>
    unfold inF at ho
    simp only at ho
    split at ho
    · rename_i c
      cases hx
      cases ho
      refine .inl ⟨c, _, rfl, rfl, ?_⟩
      simp
    · cases ho
  | tup s a =>
    unfold inF at ho
    simp only at ho
    split at ho
    · rename_i h
      obtain ⟨h1, h2⟩ := Bool.and_eq_true_iff.mp h
      cases ho
      exact .inr (.inl ⟨_, _, rfl, .inr s, sc_flat hx h1, sc_flats a h2, anyF hx h1 a h2⟩)
    · cases ho
  | lst s a =>
    unfold inF at ho
    simp only at ho
    split at ho
    · rename_i h
      obtain ⟨h1, h2⟩ := Bool.and_eq_true_iff.mp h
      cases ho
      exact .inr (.inl ⟨_, _, rfl, .inl s.seq, sc_flat hx h1, sc_flats a h2, anyF hx h1 a h2⟩)
    · split at ho
      · rename_i h
        obtain ⟨h1, h2⟩ := Bool.and_eq_true_iff.mp h
        cases ho
        exact .inr (.inr ⟨d.py, _, hx.dp _ (SeqAt.canLay_of_shaped h1), (Dq.lst s a).dp _ (SeqAt.canLay_of_shaped h2), h1, h2, any_py d _⟩)
      · cases ho
  | _ => cases ho
theorem of_in {K : PySem.W.Frag} : OpF K (rIn3 K) opIn := by
  intro H A x y d e z Q hA hx hy ho q
  unfold opIn at ho
  cases hb : inF d e with
  | none => rw [hb] at ho; cases ho
  | some b =>
    rw [hb] at ho
    cases ho
    have q1 := q _ _ (Ex.refl H) (.bl b)
    rcases in_core hx hy hb with ⟨c, z, rfl, rfl, e⟩ | ⟨p, xs, h1, h2, h3, h4, e⟩ | ⟨d', ds', h1, h2, h3, h4, e⟩
    · exact .inl ⟨c, z, rfl, rfl, by rw [e]; exact q1⟩
    · refine .inr (.inl ⟨p, xs, h1, h2, h3, h4, ?_⟩)
      rw [if_neg (by decide), e]
      exact q1
    · refine .inr (.inr ⟨d', ds', h1, h2, h3, h4, ?_⟩)
      rw [e]
      exact q1
theorem of_notIn {K : PySem.W.Frag} : OpF K (rNotIn3 K) opNotIn := by
  intro H A x y d e z Q hA hx hy ho q
  unfold opNotIn at ho
  cases hb : inF d e with
  | none => rw [hb] at ho; cases ho
  | some b =>
    rw [hb] at ho
    cases ho
    have q1 := q _ _ (Ex.refl H) (.bl (!b))
    rcases in_core hx hy hb with ⟨c, z, rfl, rfl, e⟩ | ⟨p, xs, h1, h2, h3, h4, e⟩ | ⟨d', ds', h1, h2, h3, h4, e⟩
    · exact .inl ⟨c, z, rfl, rfl, by rw [e]; exact q1⟩
    · refine .inr (.inl ⟨p, xs, h1, h2, h3, h4, ?_⟩)
      rw [if_pos rfl, e]
      exact q1
    · refine .inr (.inr ⟨d', ds', h1, h2, h3, h4, ?_⟩)
      rw [e]
      exact q1

/-! subscripts, slices -/
theorem atI_get {α β : Type} {xs : List α} {ys : List β} (hl : xs.length = ys.length) {i : Int} {y : β} (h : atI ys i = some y) : ∃ j, ixN xs.length i = some j ∧ ys[j]? = some y := by
  unfold atI at h
  cases e : ixN ys.length i with
  | none => rw [e] at h; cases h
  | some j =>
    rw [e] at h
    exact ⟨j, by rw [hl]; exact e, h⟩
theorem DqA.atI {K : PySem.W.Frag} {H : Hp} {A : Addr → Prop} {xs : List V} {ds : List D} (a : DqA K H A xs ds) {i : Int} {z : D} (h : L2.atI ds i = some z) : ∃ v, L2.atI xs i = some v ∧ Dq K H A v z := by
  obtain ⟨j, h1, h2⟩ := atI_get a.length h
  obtain ⟨v, h3, h4⟩ := a.get h2
  refine ⟨v, ?_, h4⟩
  unfold L2.atI
  rw [h1]
  exact h3
def rIx3 (K : PySem.W.Frag) : R2 := rIx K
theorem ix_3 {X : Cx} : IxR X (rIx X.K) := ix_seq
theorem of_ix {K : PySem.W.Frag} : OpF K (rIx K) opIx := by
  intro H A x y d e z Q hA hx hy ho q
  cases hy with
  | int i =>
    cases hx with
    | tup s a =>
      obtain ⟨v, h1, h2⟩ := a.atI ho
      exact .inr (.inl ⟨_, _, i, v, rfl, rfl, s, h1, q _ _ (Ex.refl H) h2⟩)
    | lst s a =>
      obtain ⟨v, h1, h2⟩ := a.atI ho
      exact .inl ⟨_, _, i, v, rfl, rfl, s.seq, h1, q _ _ (Ex.refl H) h2⟩
    | fl s a =>
      obtain ⟨v, h1, h2⟩ := a.atI ho
      exact .inl ⟨_, _, i, v, rfl, rfl, s.seq, h1, q _ _ (Ex.refl H) h2⟩
    | str s =>
      unfold opIx at ho
      simp only at ho
      split at ho
      · rename_i hl
        cases hc : atI s i with
        | none => rw [hc] at ho; cases ho
        | some c =>
          rw [hc] at ho
          cases ho
          refine .inr (.inr ⟨_, i, c, rfl, rfl, lim_le ?_, ?_, q _ _ (Ex.refl H) (.str [c])⟩)
          · show s.toArray.size ≤ lim
            simpa using hl
          · simpa using hc
      · cases ho
    | _ => cases ho
  | _ => cases hx <;> cases ho
def rSl3 (K : PySem.W.Frag) : V → Option Int → Option Int → Hp → VK → Prop := orS rSlS (orS (rSlL K) (rSlA K))
theorem sl_3 {X : Cx} : SlR X (rSl3 X.K) := slR_or sl_str (slR_or sl_list sl_tupA)
theorem DqA.cut {K : PySem.W.Frag} {H : Hp} {A : Addr → Prop} {xs : List V} {ds : List D} (a : DqA K H A xs ds) (lo hi : Option Int) : DqA K H A (cutV xs lo hi) (cutL ds lo hi) := by
  unfold cutV cutL
  rw [a.length]
  exact (a.drop _).take _
theorem cutL_all {α : Type} {xs : List α} {lo hi : Option Int} (h : HT.sIx xs.length 0 lo = 0 ∧ HT.sIx xs.length xs.length hi = xs.length) : cutL xs lo hi = xs := by
  unfold cutL
  rw [h.1, h.2]
  simp
end DL

namespace DL
open PySem PySem.Spec PyProof.Rows L2

/-! ### expressions -/
def fVar (i : Nat) : FE := fun ρ => match ρ[i]? with
  | some (some d) => .ok d ρ
  | _ => .bad
def fC (d : D) : FE := fun ρ => .ok d ρ
def fOp (op : D → D → Option D) (f h : FE) : FE := fun ρ => (f ρ).bind fun a ρ1 => (h ρ1).bind fun b ρ2 => ofO (op a b) ρ2
def fUn (op : D → Option D) (f : FE) : FE := fun ρ => (f ρ).bind fun a ρ1 => ofO (op a) ρ1
def fTst (f : FE) : FT := fun ρ => (f ρ).bind fun a ρ1 => match a with
  | .bl b => .ok b ρ1
  | _ => .bad
def fNot (f : FT) : FT := fun ρ => (f ρ).bind fun b ρ1 => .ok (!b) ρ1
def fAnd (f h : FT) : FT := fun ρ => (f ρ).bind fun b ρ1 => if b then h ρ1 else .ok false ρ1
def fOr (f h : FT) : FT := fun ρ => (f ρ).bind fun b ρ1 => if b then .ok true ρ1 else h ρ1
def fIf (c : FT) (f h : FE) : FE := fun ρ => (c ρ).bind fun b ρ1 => if b then f ρ1 else h ρ1
def fBl (c : FT) : FE := fun ρ => (c ρ).bind fun b ρ1 => .ok (.bl b) ρ1
def fNil : FA := fun ρ => .ok [] ρ
def fCons (f : FE) (h : FA) : FA := fun ρ => (f ρ).bind fun a ρ1 => (h ρ1).bind fun as ρ2 => .ok (a :: as) ρ2
def fTup (f : FA) : FE := fun ρ => (f ρ).bind fun as ρ1 => if as.length ≤ lim then .ok (.tup as) ρ1 else .bad
def fLst (f : FA) : FE := fun ρ => (f ρ).bind fun as ρ1 => if as.length ≤ lim then .ok (.lst as) ρ1 else .bad
def fCall (f : List D → Option D) (a : FA) : FE := fun ρ => (a ρ).bind fun as ρ1 => ofO (f as) ρ1
/-- the answer is a number, a text, a truth value, None -/
def fSc (f : FE) : FE := fun ρ => (f ρ).bind fun a ρ1 => if isSc a then .ok a ρ1 else .bad

section
variable {K : PySem.W.Frag} {M : List Nat} {W : WX} {X : Cx} {pu pu1 pu2 pu3 : Bool} {lv l1 l2 : Lv}

/-! the end of a part that is pure -/
theorem postG_ret {α β : Type} {P : Gh → L2.St → Hp → Rho → α → β → Prop} {g : Gh} {σ : L2.St} {H H' : Hp} {ρ ρ' : Rho} {d : β} {v : α} {Q : α → Hp → Prop} (h : PostG K M W P pu g σ H ρ (.ok d ρ') Q)
    (R : Rep K M g σ H' ρ') (ow : Own M σ ρ' = Own M σ ρ) (k : Kp (Own M σ ρ) H H') (p : pu = true → ρ' = ρ ∧ Ex H H') (v0 : P g σ H' ρ' v d) : Q v H' := h v H' R ow k p v0

theorem ev_var (i : Nat) {x : Str} {pos : Pos} (hN : X.N[i]? = some x) (hv : Vis X.env.scope x) (hi : i ∉ M) (hd : (x == ("__debug__" : Str)) = false := by decide) (hcd : (x == ("__classdict__" : Str)) = false := by decide) :
    EvD K M W X .c true (.Name x pos) (tVar i) (fVar i) := by
  refine ⟨pe_var hN hv hd hcd, fun g σ H ρ Q R h => ?_⟩
  unfold fVar at h
  cases e : ρ[i]? with
  | none => rw [e] at h; exact h.elim
  | some o =>
    cases o with
    | none => rw [e] at h; exact h.elim
    | some d =>
      rw [e] at h
      obtain ⟨v, h1, h2⟩ := R.imm i d hi e
      exact ⟨v, h1, postG_ret h R rfl (Kp.refl H) (fun _ => ⟨rfl, Ex.refl H⟩) h2⟩
theorem ev_own (i : Nat) {x : Str} {pos : Pos} (hN : X.N[i]? = some x) (hv : Vis X.env.scope x) (hi : i ∈ M) (h0 : i ≠ 0) (hd : (x == ("__debug__" : Str)) = false := by decide) (hcd : (x == ("__classdict__" : Str)) = false := by decide) :
    EvD K M W X .o true (.Name x pos) (tVar i) (fVar i) := by
  refine ⟨pe_var hN hv hd hcd, fun g σ H ρ Q R h => ?_⟩
  unfold fVar at h
  cases e : ρ[i]? with
  | none => rw [e] at h; exact h.elim
  | some o =>
    cases o with
    | none => rw [e] at h; exact h.elim
    | some d =>
      rw [e] at h
      obtain ⟨a, vs, ds, rfl, h1, h2, h3, h4⟩ := R.own i d hi e
      refine ⟨.ref a, h1, postG_ret h R rfl (Kp.refl H) (fun _ => ⟨rfl, Ex.refl H⟩) (.inr ⟨a, vs, ds, rfl, rfl, fun q => ?_, h2, h3⟩)⟩
      rcases h4 with h4 | ⟨_, h4⟩
      · exact g.hA a q h4
      · exact h0 h4
theorem so_c {v : V} {d : D} (h : ∀ (H : Hp) (A : Addr → Prop), Dq K H A v d) : SoundG K M W (PV K M .c) true (tC v) (fC d) :=
  fun g σ H ρ Q R q => postG_ret q R rfl (Kp.refl H) (fun _ => ⟨rfl, Ex.refl H⟩) (h H _)
theorem ev_int {i : Int} {j} {pos : Pos} : EvD K M W X .c true (.Constant (.int i) j pos) (tC (.int i)) (fC (.int i)) := ⟨pe_int, so_c fun _ _ => .int i⟩
theorem ev_bl {b : Bool} {j} {pos : Pos} : EvD K M W X .c true (.Constant (.bool b) j pos) (tC (.bl b)) (fC (.bl b)) := ⟨pe_bl, so_c fun _ _ => .bl b⟩
theorem ev_non {j} {pos : Pos} : EvD K M W X .c true (.Constant .none j pos) (tC .non) (fC .non) := ⟨pe_non, so_c fun _ _ => .non⟩
theorem ev_str (s : List Nat) {x : Str} {j} {pos : Pos} (h : x = ⟨s.toArray⟩ := by decide +kernel) : EvD K M W X .c true (.Constant (.str x) j pos) (tC (.str x)) (fC (.str s)) := ⟨pe_str, so_c fun _ _ => by rw [h]; exact .str s⟩
theorem ev_globI {x : Str} {i : Int} {pos : Pos} (hg : Gl X x) (hm : ∃ t, X.mg x = some (.int i t)) (hd : (x == ("__debug__" : Str)) = false := by decide) : EvD K M W X .c true (.Name x pos) (tC (.int i)) (fC (.int i)) :=
  ⟨hm.elim fun _ h => pe_glob hg h ⟨_, rfl⟩ hd, so_c fun _ _ => .int i⟩

theorem so_op {r : R2} {op : D → D → Option D} {ta tb : TE} {fa fb : FE} (ho : OpF K r op) (ha : SoundG K M W (PV K M l1) pu1 ta fa) (hb : SoundG K M W (PV K M l2) pu2 tb fb) (hp : l1 = .c ∨ pu2 = true)
    (hl : (lv = .u) ∨ (l1 = .c ∧ l2 = .c) ∨ ∀ d e z, op d e = some z → isSc z = true) : SoundG K M W (PV K M lv) (pu1 && pu2) (tOp r ta tb) (fOp op fa fb) := by
  intro g σ H ρ Q R h
  refine ha.bind R h fun d ρ1 v H1 _ R1 w1 dv1 h1 => ?_
  refine hb.bind R1 h1 fun e ρ2 w H2 _ R2 w2 dv2 h2 => ?_
  have dv1' : Dv K M g σ H2 ρ2 l1 v d := dv1.gone w2 hp
  cases hz : op d e with
  | none => rw [hz] at h2; exact h2.elim
  | some z =>
    rw [hz] at h2
    have fin : ∀ u H3, Ex H2 H3 → Dv K M g σ H3 ρ2 lv u z → Q u H3 := fun u H3 e3 dz => PostG.fin h2 (R2.kpH e3) ((w1.trans w2).ex e3) dz
    rcases hl with rfl | ⟨rfl, rfl⟩ | hl
    · exact ho H2 g.A v w d e z Q (fun a q => R2.avs a (.inl q)) dv1'.u dv2.u hz fun u H3 e3 dz => fin u H3 e3 dz
    · exact ho H2 _ v w d e z Q (fun a q => R2.avs a q) dv1' dv2 hz fun u H3 e3 dz => fin u H3 e3 (Dv.toC dz)
    · exact ho H2 g.A v w d e z Q (fun a q => R2.avs a (.inl q)) dv1'.u dv2.u hz fun u H3 e3 dz => fin u H3 e3 (Dv.ofSc (lv := .u) (σ := σ) (ρ := ρ2) (M := M) (g := g) dz (hl d e z hz))
theorem ev_op {op : Operator} {r : R2} {f : D → D → Option D} {a b : Expr} {ta tb : TE} {fa fb : FE} {pos : Pos} (hr : OpR X (binaryOp op) r) (ho : OpF K r f) (ha : EvD K M W X l1 pu1 a ta fa) (hb : EvD K M W X l2 pu2 b tb fb) (hp : l1 = .c ∨ pu2 = true)
    (hl : (lv = .u) ∨ (l1 = .c ∧ l2 = .c) ∨ ∀ d e z, f d e = some z → isSc z = true) : EvD K M W X lv (pu1 && pu2) (.BinOp a op b pos) (tOp r ta tb) (fOp f fa fb) := ⟨pe_op hr ha.pe hb.pe, so_op ho ha.so hb.so hp hl⟩
theorem ev_cmp {op : CmpOp} {r : R2} {f : D → D → Option D} {a b : Expr} {ta tb : TE} {fa fb : FE} {pos : Pos} (hr : OpR X (compareOp op) r) (ho : OpF K r f) (hm : behindInMarks op b = false) (ha : EvD K M W X l1 pu1 a ta fa) (hb : EvD K M W X l2 pu2 b tb fb) (hp : l1 = .c ∨ pu2 = true)
    (hl : (lv = .u) ∨ (l1 = .c ∧ l2 = .c) ∨ ∀ d e z, f d e = some z → isSc z = true) : EvD K M W X lv (pu1 && pu2) (.Compare a [op] [b] pos) (tOp r ta tb) (fOp f fa fb) := ⟨pe_cmpR hr ha.pe hb.pe hm, so_op ho ha.so hb.so hp hl⟩
theorem so_un {r : V → Hp → VK → Prop} {op : D → Option D} {ta : TE} {fa : FE} (ho : UnF K r op) (ha : SoundG K M W (PV K M l1) pu ta fa) (hl : (lv = .u) ∨ l1 = .c ∨ ∀ d z, op d = some z → isSc z = true) : SoundG K M W (PV K M lv) pu (tUn r ta) (fUn op fa) := by
  intro g σ H ρ Q R h
  refine ha.bind R h fun d ρ1 v H1 _ R1 w1 dv1 h1 => ?_
  cases hz : op d with
  | none => rw [hz] at h1; exact h1.elim
  | some z =>
    rw [hz] at h1
    have fin : ∀ u H3, Ex H1 H3 → Dv K M g σ H3 ρ1 lv u z → Q u H3 := fun u H3 e3 dz => PostG.fin h1 (R1.kpH e3) (w1.ex e3) dz
    have dv1 : Dv K M g σ H1 ρ1 l1 v d := dv1
    rcases hl with rfl | rfl | hl
    · exact ho H1 g.A v d z Q dv1.u hz fun u H3 e3 dz => fin u H3 e3 dz
    · exact ho H1 _ v d z Q dv1 hz fun u H3 e3 dz => fin u H3 e3 (Dv.toC dz)
    · exact ho H1 g.A v d z Q dv1.u hz fun u H3 e3 dz => fin u H3 e3 (Dv.ofSc (lv := .u) (σ := σ) (ρ := ρ1) (M := M) (g := g) dz (hl d z hz))
def rNegI : V → Hp → VK → Prop := rU fun i => .int (-i)
theorem of_neg : UnF K rNegI unNeg := by
  intro H A x d z Q hx ho q
  cases hx with
  | int i =>
    cases ho
    exact ⟨i, rfl, q _ _ (Ex.refl H) (.int _)⟩
  | _ => cases ho
theorem sc_neg : ∀ d z, unNeg d = some z → isSc z = true := fun d z h => by
  cases d <;> cases h
  rfl
theorem ev_neg {a : Expr} {ta : TE} {fa : FE} {pos : Pos} (ha : EvD K M W X l1 pu a ta fa) : EvD K M W X .c pu (.UnaryOp .USub a pos) (tUn rNegI ta) (fUn unNeg fa) := ⟨pe_un un_neg ha.pe, so_un of_neg ha.so (.inr (.inr sc_neg))⟩

/-! tests -/
theorem et_val {e : Expr} {t : TE} {f : FE} (h : EvD K M W X lv pu e t f) (he : ∀ whole, isTrue e X.env whole = (do let v ← whole; standAt e.pos; holding [v] (truthy v)) := by intro _; rfl) : EvT K M W X pu e (tB t) (fTst f) := by
  refine ⟨pt_val h.pe he, fun g σ H ρ Q R q => ?_⟩
  refine h.so.bind R q fun d ρ1 v H1 _ R1 w1 dv1 h1 => ?_
  have dv1 : Dv K M g σ H1 ρ1 lv v d := dv1
  have du := dv1.u
  cases du with
  | bl b => exact ⟨b, rfl, PostG.fin (v := b) h1 R1 w1 rfl⟩
  | _ => exact h1.elim
theorem et_not {e : Expr} {t : TT} {f : FT} {pos : Pos} (h : EvT K M W X pu e t f) : EvT K M W X pu (.UnaryOp .Not e pos) (tNot t) (fNot f) := by
  refine ⟨pt_not h.pe, fun g σ H ρ Q R q => ?_⟩
  refine h.so.bind R q fun d ρ1 v H1 _ R1 w1 dv1 h1 => ?_
  cases (show v = d from dv1)
  exact PostG.fin (v := !d) h1 R1 w1 rfl
/-- a test whatever its 'whole' is -/
structure EwT (K : PySem.W.Frag) (M : List Nat) (W : WX) (X : Cx) (pu : Bool) (e : Expr) (t : TT) (f : FT) : Prop where
  pe : PW X e t
  so : SoundG K M W (PB) pu t f
theorem EwT.et {e : Expr} {t : TT} {f : FT} (h : EwT K M W X pu e t f) : EvT K M W X pu e t f := ⟨h.pe.pt, h.so⟩
theorem ew_and1 {a : Expr} {t : TT} {f : FT} {pos : Pos} (h : EvT K M W X pu a t f) : EwT K M W X pu (.BoolOp .And [a] pos) t f := ⟨pw_and1 h.pe, h.so⟩
theorem ew_or1 {a : Expr} {t : TT} {f : FT} {pos : Pos} (h : EvT K M W X pu a t f) : EwT K M W X pu (.BoolOp .Or [a] pos) t f := ⟨pw_or1 h.pe, h.so⟩
theorem ew_and {a b : Expr} {rest : List Expr} {t u : TT} {f h : FT} {pos : Pos} (ha : EvT K M W X pu1 a t f) (hb : EwT K M W X pu2 (.BoolOp .And (b :: rest) pos) u h) : EwT K M W X (pu1 && pu2) (.BoolOp .And (a :: b :: rest) pos) (tAnd t u) (fAnd f h) := by
  refine ⟨pw_and ha.pe hb.pe, fun g σ H ρ Q R q => ?_⟩
  refine ha.so.bind R q fun d ρ1 v H1 _ R1 w1 dv1 h1 => ?_
  cases (show v = d from dv1)
  cases d with
  | true =>
    show u σ H1 Q
    exact hb.so.use R1 (fun e => by rw [if_pos rfl, e] at h1; exact h1) (fun x ρ' e => by rw [if_pos rfl, e] at h1; exact h1) fun d ρ2 v H2 e R2 ow k p dv => by
      rw [if_pos rfl, e] at h1
      exact PostG.fin h1 R2 (w1.trans ⟨ow, k, p⟩) dv
  | false =>
    show Q false H1
    exact PostG.fin (v := false) h1 R1 (w1.weak fun z => (Bool.and_eq_true_iff.mp z).1) rfl
theorem ew_or {a b : Expr} {rest : List Expr} {t u : TT} {f h : FT} {pos : Pos} (ha : EvT K M W X pu1 a t f) (hb : EwT K M W X pu2 (.BoolOp .Or (b :: rest) pos) u h) : EwT K M W X (pu1 && pu2) (.BoolOp .Or (a :: b :: rest) pos) (tOr t u) (fOr f h) := by
  refine ⟨pw_or ha.pe hb.pe, fun g σ H ρ Q R q => ?_⟩
  refine ha.so.bind R q fun d ρ1 v H1 _ R1 w1 dv1 h1 => ?_
  cases (show v = d from dv1)
  cases d with
  | false =>
    show u σ H1 Q
    exact hb.so.use R1 (fun e => by rw [if_neg (by decide), e] at h1; exact h1) (fun x ρ' e => by rw [if_neg (by decide), e] at h1; exact h1) fun d ρ2 v H2 e R2 ow k p dv => by
      rw [if_neg (by decide), e] at h1
      exact PostG.fin h1 R2 (w1.trans ⟨ow, k, p⟩) dv
  | true =>
    show Q true H1
    exact PostG.fin (v := true) h1 R1 (w1.weak fun z => (Bool.and_eq_true_iff.mp z).1) rfl

/-! and, or, not, if as values -/
def fAndV (f h : FE) : FE := fun ρ => (f ρ).bind fun a ρ1 => match a with
  | .bl b => if b then h ρ1 else .ok (.bl false) ρ1
  | _ => .bad
def fOrV (f h : FE) : FE := fun ρ => (f ρ).bind fun a ρ1 => match a with
  | .bl b => if b then .ok (.bl true) ρ1 else h ρ1
  | _ => .bad
theorem ev_one {op} {a : Expr} {t : TE} {f : FE} {pos : Pos} (h : EvD K M W X lv pu a t f) : EvD K M W X lv pu (.BoolOp op [a] pos) t f := ⟨pe_one h.pe, h.so⟩
theorem ev_and {a b : Expr} {rest : List Expr} {t u : TE} {f h : FE} {pos : Pos} (ha : EvD K M W X l1 pu1 a t f) (hb : EvD K M W X lv pu2 (.BoolOp .And (b :: rest) pos) u h) : EvD K M W X lv (pu1 && pu2) (.BoolOp .And (a :: b :: rest) pos) (tAndV t u) (fAndV f h) := by
  refine ⟨pe_and ha.pe hb.pe, fun g σ H ρ Q R q => ?_⟩
  refine ha.so.bind R q fun d ρ1 v H1 _ R1 w1 dv1 h1 => ?_
  have du := (show Dv K M g σ H1 ρ1 l1 v d from dv1).u
  cases du with
  | bl b =>
    refine ⟨b, rfl, ?_⟩
    cases b with
    | true =>
      show u σ H1 Q
      exact hb.so.use R1 (fun e => by simp only [if_true] at h1; rw [e] at h1; exact h1) (fun x ρ' e => by simp only [if_true] at h1; rw [e] at h1; exact h1) fun d ρ2 v H2 e R2 ow k p dv => by
        simp only [if_true] at h1
        rw [e] at h1
        exact PostG.fin h1 R2 (w1.trans ⟨ow, k, p⟩) dv
    | false =>
      show Q (.bl false) H1
      exact PostG.fin (v := V.bl false) h1 R1 (w1.weak fun z => (Bool.and_eq_true_iff.mp z).1) (show Dv K M g σ H1 ρ1 lv (.bl false) (.bl false) from Dv.toC (.bl false))
  | _ => exact h1.elim
theorem ev_or {a b : Expr} {rest : List Expr} {t u : TE} {f h : FE} {pos : Pos} (ha : EvD K M W X l1 pu1 a t f) (hb : EvD K M W X lv pu2 (.BoolOp .Or (b :: rest) pos) u h) : EvD K M W X lv (pu1 && pu2) (.BoolOp .Or (a :: b :: rest) pos) (tOrV t u) (fOrV f h) := by
  refine ⟨pe_or ha.pe hb.pe, fun g σ H ρ Q R q => ?_⟩
  refine ha.so.bind R q fun d ρ1 v H1 _ R1 w1 dv1 h1 => ?_
  have du := (show Dv K M g σ H1 ρ1 l1 v d from dv1).u
  cases du with
  | bl b =>
    refine ⟨b, rfl, ?_⟩
    cases b with
    | false =>
      show u σ H1 Q
      exact hb.so.use R1 (fun e => by simp only [Bool.false_eq_true, if_false] at h1; rw [e] at h1; exact h1) (fun x ρ' e => by simp only [Bool.false_eq_true, if_false] at h1; rw [e] at h1; exact h1) fun d ρ2 v H2 e R2 ow k p dv => by
        simp only [Bool.false_eq_true, if_false] at h1
        rw [e] at h1
        exact PostG.fin h1 R2 (w1.trans ⟨ow, k, p⟩) dv
    | true =>
      show Q (.bl true) H1
      exact PostG.fin (v := V.bl true) h1 R1 (w1.weak fun z => (Bool.and_eq_true_iff.mp z).1) (show Dv K M g σ H1 ρ1 lv (.bl true) (.bl true) from Dv.toC (.bl true))
  | _ => exact h1.elim
theorem ev_not {a : Expr} {t : TE} {f : FE} {pos : Pos} (ha : EvD K M W X l1 pu a t f) : EvD K M W X .c pu (.UnaryOp .Not a pos) (tNotV t) (fUn unNot f) := by
  refine ⟨pe_not ha.pe, fun g σ H ρ Q R q => ?_⟩
  refine ha.so.bind R q fun d ρ1 v H1 _ R1 w1 dv1 h1 => ?_
  have du := (show Dv K M g σ H1 ρ1 l1 v d from dv1).u
  cases du with
  | bl b => exact ⟨b, rfl, PostG.fin (v := V.bl (!b)) h1 R1 w1 (show Dv K M g σ H1 ρ1 .c (.bl (!b)) (.bl (!b)) from Dv.toC (.bl (!b)))⟩
  | _ => exact h1.elim
theorem ev_if {c a b : Expr} {tc : TT} {t u : TE} {fc : FT} {f h : FE} {pos : Pos} (hc : EvT K M W X pu1 c tc fc) (ha : EvD K M W X lv pu2 a t f) (hb : EvD K M W X lv pu3 b u h) : EvD K M W X lv (pu1 && (pu2 && pu3)) (.IfExp c a b pos) (tIf tc t u) (fIf fc f h) := by
  refine ⟨pe_ifExp hc.pe ha.pe hb.pe, fun g σ H ρ Q R q => ?_⟩
  refine hc.so.bind R q fun d ρ1 v H1 _ R1 w1 dv1 h1 => ?_
  cases (show v = d from dv1)
  cases d with
  | true =>
    show t σ H1 Q
    exact ha.so.use R1 (fun e => by rw [if_pos rfl, e] at h1; exact h1) (fun x ρ' e => by rw [if_pos rfl, e] at h1; exact h1) fun d ρ2 v H2 e R2 ow k p dv => by
      rw [if_pos rfl, e] at h1
      exact PostG.fin h1 R2 ((w1.trans ⟨ow, k, p⟩).weak fun z => by simp at z ⊢; exact ⟨z.1, z.2.1⟩) dv
  | false =>
    show u σ H1 Q
    exact hb.so.use R1 (fun e => by rw [if_neg (by decide), e] at h1; exact h1) (fun x ρ' e => by rw [if_neg (by decide), e] at h1; exact h1) fun d ρ2 v H2 e R2 ow k p dv => by
      rw [if_neg (by decide), e] at h1
      exact PostG.fin h1 R2 ((w1.trans ⟨ow, k, p⟩).weak fun z => by simp at z ⊢; exact ⟨z.1, z.2.2⟩) dv

/-! levels -/
theorem ev_toU {e : Expr} {t : TE} {f : FE} (h : EvD K M W X lv pu e t f) : EvD K M W X .u pu e t f :=
  ⟨h.pe, fun g σ H ρ Q R q => h.so g σ H ρ Q R (by
    cases hf : f ρ with
    | bad => rw [hf] at q; exact q
    | exc x ρ' => rw [hf] at q; exact q
    | ok d ρ' =>
      rw [hf] at q
      exact fun v H' R' ow k p dv => q v H' R' ow k p (Dv.u dv))⟩
theorem ev_sc {e : Expr} {t : TE} {f : FE} (h : EvD K M W X lv pu e t f) : EvD K M W X .c pu e t (fSc f) :=
  ⟨h.pe, fun g σ H ρ Q R q => h.so g σ H ρ Q R (by
    unfold fSc at q
    cases hf : f ρ with
    | bad => rw [hf] at q; exact q
    | exc x ρ' => rw [hf] at q; exact q
    | ok d ρ' =>
      rw [hf] at q
      by_cases hs : isSc d = true
      · rw [Out.bind_ok, if_pos hs] at q
        exact fun v H' R' ow k p dv => q v H' R' ow k p (Dv.ofSc dv hs)
      · rw [Out.bind_ok, if_neg hs] at q
        exact q.elim)⟩

/-! arguments, tuples, lists -/
theorem pl_keep {lv : Lv} {g : Gh} {σ : L2.St} {H H1 : Hp} {ρ ρ1 : Rho} {v : V} {d : D} {p : Bool} (h : Dv K M g σ H ρ l1 v d) (w : Gone M σ p H ρ H1 ρ1) (q : l1 = .c ∨ p = true) (hl : lv = .c → l1 = .c) : (match lv with | .c => Dq K H1 (Avs M g σ ρ1) v d | _ => Dq K H1 g.A v d) := by
  have h2 := h.gone w q
  cases lv with
  | c => exact h2.c (hl rfl)
  | o => exact h2.u
  | u => exact h2.u
theorem ea_nil : EvA K M W X lv true [] tNil fNil := ⟨pa_nil, fun g σ H ρ Q R q => PostG.fin (v := []) q R Gone.refl (by cases lv <;> exact DqA.nil)⟩
theorem ea_cons {e : Expr} {es : List Expr} {t : TE} {u : TA} {f : FE} {h : FA} (ha : EvD K M W X l1 pu1 e t f) (hb : EvA K M W X lv pu2 es u h) (hp : l1 = .c ∨ pu2 = true) (hl : lv = .c → l1 = .c)
    (hs : starEach (e :: es) X.env = (false, eval e X.env) :: starEach es X.env := by rfl) : EvA K M W X lv (pu1 && pu2) (e :: es) (tCons t u) (fCons f h) := by
  refine ⟨pa_cons ha.pe hb.pe hs, fun g σ H ρ Q R q => ?_⟩
  refine ha.so.bind R q fun d ρ1 v H1 _ R1 w1 dv1 h1 => ?_
  refine hb.so.bind R1 h1 fun ds ρ2 vs H2 _ R2 w2 dv2 h2 => ?_
  have k := pl_keep (lv := lv) (show Dv K M g σ H1 ρ1 l1 v d from dv1) w2 hp hl
  refine PostG.fin (v := v :: vs) h2 R2 (w1.trans w2) ?_
  cases lv with
  | c => exact .cons k dv2
  | o => exact .cons k dv2
  | u => exact .cons k dv2
theorem ev_tup {es : List Expr} {t : TA} {f : FA} {x1} {pos : Pos} (h : EvA K M W X lv pu es t f) (ho : lv ≠ .o := by decide) : EvD K M W X lv pu (.Tuple es x1 pos) (tTup t) (fTup f) := by
  refine ⟨pe_tup h.pe, fun g σ H ρ Q R q => ?_⟩
  refine h.so.bind R q fun ds ρ1 vs H1 _ R1 w1 dv1 h1 => ?_
  have len : vs.length = ds.length := by cases lv <;> exact DqA.length dv1
  by_cases hl : ds.length ≤ lim
  · rw [if_pos hl] at h1
    refine ⟨lim_le (by rw [len]; exact hl), fun p np => ?_⟩
    have e := Ex.new (o := .tup vs) np
    refine PostG.fin (v := .ref p) h1 (R1.kpH e) (w1.ex e) ?_
    cases lv with
    | c => exact dq_tup dv1 np
    | u => exact dq_tup dv1 np
    | o => exact (ho rfl).elim
  · rw [if_neg hl] at h1
    exact h1.elim
end
end DL

namespace DL
open PySem PySem.Spec PyProof.Rows L2

/-! ### a text's count of a sign -/
section
open Builtin Builtin.Str PySem.StrLaws
theorem occ_cnt (x : Str) (c limit : Nat) : ∀ (k a : Nat) (st : Array Nat × Nat), st.2 ≤ a → st.1.size + k ≤ limit →
    ((forIn (List.range' a k) st (occBody x ⟨#[c]⟩ x.length limit)).run.fst).size = st.1.size + ((List.range' a k).filter fun i => decide (x.cps.toList[i]? = some c)).length
  | 0, a, st, _, _ => by simp
  | k + 1, a, st, h1, h2 => by
    rw [List.range'_succ, List.forIn_cons]
    have e : occBody x ⟨#[c]⟩ x.length limit a st = pure (ForInStep.yield (if x.cps.toList[a]? = some c then (st.1.push a, a + 1) else st)) := by
      unfold occBody
      have s1 := subAt_one x c a
      by_cases h : x.cps.toList[a]? = some c
      · obtain ⟨q1, q2⟩ := s1.mpr h
        rw [if_pos ⟨⟨⟨by omega, h1⟩, q1⟩, q2⟩, if_pos h]
        rfl
      · rw [if_neg (fun q => h (s1.mp ⟨q.1.2, q.2⟩)), if_neg h]
    rw [e]
    show ((forIn (List.range' (a + 1) k) (if x.cps.toList[a]? = some c then (st.1.push a, a + 1) else st) (occBody x ⟨#[c]⟩ x.length limit)).run.fst).size = _
    by_cases h : x.cps.toList[a]? = some c
    · rw [if_pos h, occ_cnt x c limit k (a + 1) _ (Nat.le_refl _) (by simp; omega), List.filter_cons_of_pos (by simpa using h)]
      simp
      omega
    · rw [if_neg h, occ_cnt x c limit k (a + 1) _ (by omega) (by omega), List.filter_cons_of_neg (by simpa using h)]
theorem range_cnt (c : Nat) : ∀ (l : List Nat) (a : Nat) (pre : List Nat), pre.length = a → ((List.range' a (l.length + 1)).filter fun i => decide ((pre ++ l)[i]? = some c)).length = l.count c
  | [], a, pre, h => by
    subst h
    simp
  | y :: l, a, pre, h => by
    rw [List.length_cons, List.range'_succ]
    have ih := range_cnt c l (a + 1) (pre ++ [y]) (by simp [h])
    rw [List.append_assoc, List.singleton_append] at ih
    have e : (pre ++ y :: l)[a]? = some y := by
      rw [← h, List.getElem?_append_right (Nat.le_refl _)]
      simp
    by_cases hy : y = c
    · rw [List.filter_cons_of_pos (by rw [e, hy]; simp), List.length_cons, ih, hy]
      simp
    · rw [List.filter_cons_of_neg (by rw [e]; simpa using hy), ih, List.count_cons_of_ne (by simpa using hy)]
theorem count_sign (s : List Nat) (c : Nat) : Txt.count ⟨s.toArray⟩ ⟨#[c]⟩ = ((s.count c : Nat) : Int) := by
  unfold Txt.count
  rw [occ_eq]
  have h := occ_cnt ⟨s.toArray⟩ c (s.length + 1) (s.length + 1) 0 (#[], 0) (Nat.le_refl _) (by simp)
  have r := range_cnt c s 0 [] rfl
  show (((forIn (List.range' 0 (s.toArray.size + 1 - 0)) (#[], 0) (occBody ⟨s.toArray⟩ ⟨#[c]⟩ s.toArray.size (s.toArray.size + 1))).run.fst.toList.length : Nat) : Int) = _
  rw [show s.toArray.size = s.length by simp, Array.length_toList, Nat.sub_zero]
  have h' : ((forIn (List.range' 0 (s.length + 1)) ((#[] : Array Nat), 0) (occBody ⟨s.toArray⟩ ⟨#[c]⟩ s.length (s.length + 1))).run.fst).size = s.count c := by
    have e : ((⟨s.toArray⟩ : Str).length) = s.length := by simp [Str.length]
    rw [e] at h
    rw [h]
    simp only [List.nil_append] at r
    simpa using r
  rw [h']
end

/-! ### built-ins on data -/
def asInts : List D → Option (List Int)
  | [] => some []
  | .int i :: ds => (asInts ds).map (i :: ·)
  | _ => none
def asBls : List D → Option (List Bool)
  | [] => some []
  | .bl i :: ds => (asBls ds).map (i :: ·)
  | _ => none
def asStrs : List D → Option (List (List Nat))
  | [] => some []
  | .str i :: ds => (asStrs ds).map (i :: ·)
  | _ => none
theorem asInts_eq : ∀ {ds : List D} {ns : List Int}, asInts ds = some ns → ds = ns.map D.int
  | [], _, h => by cases h; rfl
  | .int i :: ds, ns, h => by
    unfold asInts at h
    cases e : asInts ds with
    | none => rw [e] at h; cases h
    | some ms =>
      rw [e] at h
      cases h
      rw [asInts_eq e]
      rfl
  | .non :: _, _, h => by cases h
  | .bl _ :: _, _, h => by cases h
  | .str _ :: _, _, h => by cases h
  | .tup _ :: _, _, h => by cases h
  | .lst _ :: _, _, h => by cases h
  | .fl _ :: _, _, h => by cases h
  | .dct :: _, _, h => by cases h
theorem asBls_eq : ∀ {ds : List D} {ns : List Bool}, asBls ds = some ns → ds = ns.map D.bl
  | [], _, h => by cases h; rfl
  | .bl i :: ds, ns, h => by
    unfold asBls at h
    cases e : asBls ds with
    | none => rw [e] at h; cases h
    | some ms =>
      rw [e] at h
      cases h
      rw [asBls_eq e]
      rfl
  | .non :: _, _, h => by cases h
  | .int _ :: _, _, h => by cases h
  | .str _ :: _, _, h => by cases h
  | .tup _ :: _, _, h => by cases h
  | .lst _ :: _, _, h => by cases h
  | .fl _ :: _, _, h => by cases h
  | .dct :: _, _, h => by cases h
theorem asStrs_eq : ∀ {ds : List D} {ns : List (List Nat)}, asStrs ds = some ns → ds = ns.map D.str
  | [], _, h => by cases h; rfl
  | .str i :: ds, ns, h => by
    unfold asStrs at h
    cases e : asStrs ds with
    | none => rw [e] at h; cases h
    | some ms =>
      rw [e] at h
      cases h
      rw [asStrs_eq e]
      rfl
  | .non :: _, _, h => by cases h
  | .bl _ :: _, _, h => by cases h
  | .int _ :: _, _, h => by cases h
  | .tup _ :: _, _, h => by cases h
  | .lst _ :: _, _, h => by cases h
  | .fl _ :: _, _, h => by cases h
  | .dct :: _, _, h => by cases h
theorem asInts_map : ∀ ns : List Int, asInts (ns.map D.int) = some ns
  | [] => rfl
  | n :: ns => by
    show (asInts (ns.map D.int)).map (n :: ·) = _
    rw [asInts_map ns]
    rfl
theorem asBls_map : ∀ ns : List Bool, asBls (ns.map D.bl) = some ns
  | [] => rfl
  | n :: ns => by
    show (asBls (ns.map D.bl)).map (n :: ·) = _
    rw [asBls_map ns]
    rfl
theorem asStrs_map : ∀ ns : List (List Nat), asStrs (ns.map D.str) = some ns
  | [] => rfl
  | n :: ns => by
    show (asStrs (ns.map D.str)).map (n :: ·) = _
    rw [asStrs_map ns]
    rfl
def bLen : List D → Option D
  | [.str s] => if s.length ≤ lim then some (.int s.length) else none
  | [.lst xs] => some (.int xs.length)
  | [.fl xs] => some (.int xs.length)
  | [.tup xs] => some (.int xs.length)
  | _ => none
def bInt : List D → Option D
  | [.int i] => some (.int i)
  | [.bl b] => some (.int (if b then 1 else 0))
  | _ => none
def bMax2 : List D → Option D
  | [.int i, .int j] => some (.int (if j > i then j else i))
  | _ => none
def bMin2 : List D → Option D
  | [.int i, .int j] => some (.int (if j < i then j else i))
  | _ => none
def bAbs : List D → Option D
  | [.int i] => some (.int (if i < 0 then -i else i))
  | _ => none
def maxL : List Int → Option Int
  | [] => none
  | x :: xs => some (xs.foldl (fun m y => if y > m then y else m) x)
def minL : List Int → Option Int
  | [] => none
  | x :: xs => some (xs.foldl (fun m y => if y < m then y else m) x)
def bMaxL : List D → Option D
  | [.lst ds] => (asInts ds).bind fun ns => (maxL ns).map .int
  | _ => none
def bMinL : List D → Option D
  | [.lst ds] => (asInts ds).bind fun ns => (minL ns).map .int
  | _ => none
def bSum : List D → Option D
  | [.lst ds] => (asInts ds).map fun ns => .int ns.sum
  | _ => none
def bAll : List D → Option D
  | [.lst ds] => (asBls ds).map fun ns => .bl (ns.all id)
  | _ => none
def bAny : List D → Option D
  | [.lst ds] => (asBls ds).map fun ns => .bl (ns.any id)
  | _ => none
def bTuple : List D → Option D
  | [.lst ds] => if ds.length ≤ lim then some (.tup ds) else none
  | [.tup ds] => some (.tup ds)
  | _ => none
def bGcd : List D → Option D
  | [.int i, .int j] => some (.int (Nat.gcd i.natAbs j.natAbs : Nat))
  | _ => none
def bCount : List D → Option D
  | [.str a, .str [c]] => some (.int ((a.count c : Nat) : Int))
  | _ => none
def sumLen (ys : List (List Nat)) : Nat := (ys.map List.length).sum
def bJoin : List D → Option D
  | [.str a, .lst ds] => (asStrs ds).bind fun ys => if sumLen ys + ys.length * a.length ≤ 10000000 then some (.str (TL.joinL a ys)) else none
  | [.str a, .tup ds] => (asStrs ds).bind fun ys => if sumLen ys + ys.length * a.length ≤ 10000000 then some (.str (TL.joinL a ys)) else none
  | _ => none
theorem maxL_le : ∀ {xs : List Int} {m : Int}, maxL xs = some m → m ∈ xs ∧ ∀ y ∈ xs, y ≤ m := by
  have key : ∀ (xs : List Int) (x : Int), (xs.foldl (fun m y => if y > m then y else m) x) ∈ x :: xs ∧ ∀ y ∈ x :: xs, y ≤ xs.foldl (fun m y => if y > m then y else m) x := by
    intro xs
    induction xs with
    | nil =>
      intro x
      simp
    | cons z zs ih =>
      intro x
      obtain ⟨h1, h2⟩ := ih (if z > x then z else x)
      refine ⟨?_, fun y hy => ?_⟩
      · rcases List.mem_cons.mp h1 with h | h
        · show zs.foldl _ (if z > x then z else x) ∈ _
          rw [h]
          split
          · simp
          · simp
        · exact List.mem_cons_of_mem _ (List.mem_cons_of_mem _ h)
      · have h0 := h2 (if z > x then z else x) (List.mem_cons_self ..)
        show y ≤ zs.foldl _ (if z > x then z else x)
        rcases List.mem_cons.mp hy with rfl | hy
        · refine Int.le_trans ?_ h0
          split <;> omega
        · rcases List.mem_cons.mp hy with rfl | hy
          · refine Int.le_trans ?_ h0
            split <;> omega
          · exact h2 y (List.mem_cons_of_mem _ hy)
  intro xs m h
  cases xs with
  | nil => cases h
  | cons x xs =>
    cases h
    exact key xs x
theorem minL_le : ∀ {xs : List Int} {m : Int}, minL xs = some m → m ∈ xs ∧ ∀ y ∈ xs, m ≤ y := by
  have key : ∀ (xs : List Int) (x : Int), (xs.foldl (fun m y => if y < m then y else m) x) ∈ x :: xs ∧ ∀ y ∈ x :: xs, xs.foldl (fun m y => if y < m then y else m) x ≤ y := by
    intro xs
    induction xs with
    | nil =>
      intro x
      simp
    | cons z zs ih =>
      intro x
      obtain ⟨h1, h2⟩ := ih (if z < x then z else x)
      refine ⟨?_, fun y hy => ?_⟩
      · rcases List.mem_cons.mp h1 with h | h
        · show zs.foldl _ (if z < x then z else x) ∈ _
          rw [h]
          split
          · simp
          · simp
        · exact List.mem_cons_of_mem _ (List.mem_cons_of_mem _ h)
      · have h0 := h2 (if z < x then z else x) (List.mem_cons_self ..)
        show zs.foldl _ (if z < x then z else x) ≤ y
        rcases List.mem_cons.mp hy with rfl | hy
        · refine Int.le_trans h0 ?_
          split <;> omega
        · rcases List.mem_cons.mp hy with rfl | hy
          · refine Int.le_trans h0 ?_
            split <;> omega
          · exact h2 y (List.mem_cons_of_mem _ hy)
  intro xs m h
  cases xs with
  | nil => cases h
  | cons x xs =>
    cases h
    exact key xs x
theorem maxL_of {xs : List Int} {m : Int} (h1 : m ∈ xs) (h2 : ∀ y ∈ xs, y ≤ m) : maxL xs = some m := by
  cases xs with
  | nil => cases h1
  | cons x xs =>
    obtain ⟨k1, k2⟩ := maxL_le (xs := x :: xs) rfl
    exact congrArg some (Int.le_antisymm (h2 _ k1) (k2 _ h1))
theorem minL_of {xs : List Int} {m : Int} (h1 : m ∈ xs) (h2 : ∀ y ∈ xs, m ≤ y) : minL xs = some m := by
  cases xs with
  | nil => cases h1
  | cons x xs =>
    obtain ⟨k1, k2⟩ := minL_le (xs := x :: xs) rfl
    exact congrArg some (Int.le_antisymm (k2 _ h1) (h2 _ k1))

/-! ### their rules -/
def CbF (K : PySem.W.Frag) (r : List V → Hp → VK → Prop) (op : List D → Option D) : Prop :=
  ∀ (H : Hp) (A : Addr → Prop) (vs : List V) (ds : List D) (z : D) (Q : VK), DqA K H A vs ds → op ds = some z → (∀ v H', Ex H H' → Dq K H' A v z → Q v H') → r vs H Q
section
variable {K : PySem.W.Frag}
def rLenB (K : PySem.W.Frag) : List V → Hp → VK → Prop := fun xs H Q => ∃ x n, xs = [x] ∧ LenV K x H n ∧ Q (.int n) H
theorem cf_len : CbF K (rLenB K) bLen := by
  intro H A vs ds z Q h ho q
  unfold bLen at ho
  split at ho
  · rename_i s
    split at ho
    · rename_i hl
      cases ho
      cases h with
      | cons h t =>
        cases h
        cases t
        refine ⟨_, s.length, rfl, ⟨lim_le ?_, ?_⟩, q _ _ (Ex.refl H) (.int _)⟩
        · show s.toArray.size ≤ lim
          simpa using hl
        · show s.length = s.toArray.size
          simp
    · cases ho
  · cases ho
    cases h with
    | cons h t =>
      cases t
      cases h with
      | lst s a => exact ⟨_, _, rfl, .inl ⟨_, s.seq, a.length.symm⟩, q _ _ (Ex.refl H) (.int _)⟩
  · cases ho
    cases h with
    | cons h t =>
      cases t
      cases h with
      | fl s a => exact ⟨_, _, rfl, .inl ⟨_, s.seq, a.length.symm⟩, q _ _ (Ex.refl H) (.int _)⟩
  · cases ho
    cases h with
    | cons h t =>
      cases t
      cases h with
      | tup s a => exact ⟨_, _, rfl, .inr ⟨_, s, a.length.symm⟩, q _ _ (Ex.refl H) (.int _)⟩
  · cases ho
def rIntB : List V → Hp → VK → Prop := fun xs H Q => (∃ i, xs = [.int i] ∧ Q (.int i) H) ∨ ∃ k, xs = [.bl k] ∧ Q (.int (if k then 1 else 0)) H
theorem cf_int : CbF K rIntB bInt := by
  intro H A vs ds z Q h ho q
  unfold bInt at ho
  split at ho
  · cases ho
    cases h with
    | cons h t =>
      cases h
      cases t
      exact .inl ⟨_, rfl, q _ _ (Ex.refl H) (.int _)⟩
  · cases ho
    cases h with
    | cons h t =>
      cases h
      cases t
      exact .inr ⟨_, rfl, q _ _ (Ex.refl H) (.int _)⟩
  · cases ho
def rMax2B : List V → Hp → VK → Prop := fun xs H Q => ∃ i j, xs = [.int i, .int j] ∧ Q (.int (if j > i then j else i)) H
def rMin2B : List V → Hp → VK → Prop := fun xs H Q => ∃ i j, xs = [.int i, .int j] ∧ Q (.int (if j < i then j else i)) H
theorem cf_max2 : CbF K rMax2B bMax2 := by
  intro H A vs ds z Q h ho q
  unfold bMax2 at ho
  split at ho
  · cases ho
    cases h with
    | cons h t =>
      cases h
      cases t with
      | cons h t =>
        cases h
        cases t
        exact ⟨_, _, rfl, q _ _ (Ex.refl H) (.int _)⟩
  · cases ho
theorem cf_min2 : CbF K rMin2B bMin2 := by
  intro H A vs ds z Q h ho q
  unfold bMin2 at ho
  split at ho
  · cases ho
    cases h with
    | cons h t =>
      cases h
      cases t with
      | cons h t =>
        cases h
        cases t
        exact ⟨_, _, rfl, q _ _ (Ex.refl H) (.int _)⟩
  · cases ho
theorem cf_gcd : CbF K rGcd bGcd := by
  intro H A vs ds z Q h ho q
  unfold bGcd at ho
  split at ho
  · cases ho
    cases h with
    | cons h t =>
      cases h
      cases t with
      | cons h t =>
        cases h
        cases t
        exact ⟨_, _, rfl, q _ _ (Ex.refl H) (.int _)⟩
  · cases ho
def rAbsB : List V → Hp → VK → Prop := fun xs H Q => ∃ i, xs = [.int i] ∧ Q (.int (if i < 0 then -i else i)) H
theorem cf_abs : CbF K rAbsB bAbs := by
  intro H A vs ds z Q h ho q
  unfold bAbs at ho
  split at ho
  · cases ho
    cases h with
    | cons h t =>
      cases h
      cases t
      exact ⟨_, rfl, q _ _ (Ex.refl H) (.int _)⟩
  · cases ho
theorem ints_of {H : Hp} {A : Addr → Prop} {vs : List V} {ds : List D} {ns : List Int} (h : DqA K H A vs [.lst ds]) (e : asInts ds = some ns) : ∃ a, vs = [.ref a] ∧ SqL K H a (ns.map V.int) := by
  cases h with
  | cons h t =>
    cases t
    cases h with
    | lst s a =>
      have e2 := asInts_eq e
      subst e2
      rw [a.ints] at s
      exact ⟨_, rfl, s.seq⟩
theorem bls_of {H : Hp} {A : Addr → Prop} {vs : List V} {ds : List D} {ns : List Bool} (h : DqA K H A vs [.lst ds]) (e : asBls ds = some ns) : ∃ a, vs = [.ref a] ∧ SqL K H a (ns.map V.bl) := by
  cases h with
  | cons h t =>
    cases t
    cases h with
    | lst s a =>
      have e2 := asBls_eq e
      subst e2
      rw [a.bls] at s
      exact ⟨_, rfl, s.seq⟩
theorem cf_max : CbF K (rMax K) bMaxL := by
  intro H A vs ds z Q h ho q
  unfold bMaxL at ho
  split at ho
  · rename_i xs
    cases e : asInts xs with
    | none => rw [e] at ho; cases ho
    | some ns =>
      rw [e] at ho
      cases em : maxL ns with
      | none => simp only [Option.bind_some, em] at ho; cases ho
      | some m =>
        simp only [Option.bind_some, em] at ho
        cases ho
        obtain ⟨a, rfl, s⟩ := ints_of h e
        obtain ⟨m1, m2⟩ := maxL_le em
        refine ⟨a, ns, rfl, s, List.length_pos_of_mem m1, fun k k1 k2 => ?_⟩
        rw [Int.le_antisymm (m2 k k1) (k2 m m1)]
        exact q _ _ (Ex.refl H) (.int _)
  · cases ho
theorem cf_min : CbF K (rMin K) bMinL := by
  intro H A vs ds z Q h ho q
  unfold bMinL at ho
  split at ho
  · rename_i xs
    cases e : asInts xs with
    | none => rw [e] at ho; cases ho
    | some ns =>
      rw [e] at ho
      cases em : minL ns with
      | none => simp only [Option.bind_some, em] at ho; cases ho
      | some m =>
        simp only [Option.bind_some, em] at ho
        cases ho
        obtain ⟨a, rfl, s⟩ := ints_of h e
        obtain ⟨m1, m2⟩ := minL_le em
        refine ⟨a, ns, rfl, s, List.length_pos_of_mem m1, fun k k1 k2 => ?_⟩
        rw [Int.le_antisymm (k2 m m1) (m2 k k1)]
        exact q _ _ (Ex.refl H) (.int _)
  · cases ho
theorem cf_sum : CbF K (rSum K) bSum := by
  intro H A vs ds z Q h ho q
  unfold bSum at ho
  split at ho
  · rename_i xs
    cases e : asInts xs with
    | none => rw [e] at ho; cases ho
    | some ns =>
      rw [e] at ho
      cases ho
      obtain ⟨a, rfl, s⟩ := ints_of h e
      exact ⟨a, ns, rfl, s, q _ _ (Ex.refl H) (.int _)⟩
  · cases ho
theorem cf_all : CbF K (rAll K) bAll := by
  intro H A vs ds z Q h ho q
  unfold bAll at ho
  split at ho
  · rename_i xs
    cases e : asBls xs with
    | none => rw [e] at ho; cases ho
    | some ns =>
      rw [e] at ho
      cases ho
      obtain ⟨a, rfl, s⟩ := bls_of h e
      exact ⟨a, ns, rfl, s, q _ _ (Ex.refl H) (.bl _)⟩
  · cases ho
theorem cf_any : CbF K (rAny K) bAny := by
  intro H A vs ds z Q h ho q
  unfold bAny at ho
  split at ho
  · rename_i xs
    cases e : asBls xs with
    | none => rw [e] at ho; cases ho
    | some ns =>
      rw [e] at ho
      cases ho
      obtain ⟨a, rfl, s⟩ := bls_of h e
      exact ⟨a, ns, rfl, s, q _ _ (Ex.refl H) (.bl _)⟩
  · cases ho
def rTupB (K : PySem.W.Frag) : List V → Hp → VK → Prop := fun xs H Q => ∃ p ys, xs = [.ref p] ∧ ((SqL K H p ys ∧ ∀ l, H l = none → Q (.ref l) (upd H l (.tup ys))) ∨ (SqT K H p ys ∧ Q (.ref p) H))
theorem cf_tuple : CbF K (rTupB K) bTuple := by
  intro H A vs ds z Q h ho q
  unfold bTuple at ho
  split at ho
  · split at ho
    · cases ho
      cases h with
      | cons h t =>
        cases t
        cases h with
        | lst s a => exact ⟨_, _, rfl, .inl ⟨s.seq, fun l nl => q _ _ (Ex.new nl) (dq_tup a nl)⟩⟩
    · cases ho
  · cases ho
    cases h with
    | cons h t =>
      cases t
      cases h with
      | tup s a => exact ⟨_, _, rfl, .inr ⟨s, q _ _ (Ex.refl H) (.tup s a)⟩⟩
  · cases ho
end

/-! sc of the answers -/
theorem osc {α : Type} {o : Option α} {f : α → D} {z : D} (h : o.map f = some z) (hf : ∀ a, isSc (f a) = true) : isSc z = true := by
  cases o with
  | none => cases h
  | some a =>
    cases h
    exact hf a
theorem sc_len : ∀ ds z, bLen ds = some z → isSc z = true := fun ds z h => by
  unfold bLen at h
  split at h
  · split at h <;> cases h
    rfl
  · cases h
    rfl
  · cases h
    rfl
  · cases h
    rfl
  · cases h
theorem sc_int : ∀ ds z, bInt ds = some z → isSc z = true := fun ds z h => by
  unfold bInt at h
  split at h <;> cases h <;> rfl
theorem sc_max2 : ∀ ds z, bMax2 ds = some z → isSc z = true := fun ds z h => by
  unfold bMax2 at h
  split at h <;> cases h <;> rfl
theorem sc_min2 : ∀ ds z, bMin2 ds = some z → isSc z = true := fun ds z h => by
  unfold bMin2 at h
  split at h <;> cases h <;> rfl
theorem sc_abs : ∀ ds z, bAbs ds = some z → isSc z = true := fun ds z h => by
  unfold bAbs at h
  split at h <;> cases h <;> rfl
theorem sc_gcd : ∀ ds z, bGcd ds = some z → isSc z = true := fun ds z h => by
  unfold bGcd at h
  split at h <;> cases h <;> rfl
theorem sc_sum : ∀ ds z, bSum ds = some z → isSc z = true := fun ds z h => by
  unfold bSum at h
  split at h
  · exact osc h fun _ => rfl
  · cases h
theorem sc_all : ∀ ds z, bAll ds = some z → isSc z = true := fun ds z h => by
  unfold bAll at h
  split at h
  · exact osc h fun _ => rfl
  · cases h
theorem sc_any : ∀ ds z, bAny ds = some z → isSc z = true := fun ds z h => by
  unfold bAny at h
  split at h
  · exact osc h fun _ => rfl
  · cases h
theorem sc_maxl : ∀ ds z, bMaxL ds = some z → isSc z = true := fun ds z h => by
  unfold bMaxL at h
  split at h
  · rename_i xs
    cases e : asInts xs with
    | none => rw [e] at h; cases h
    | some ns =>
      rw [e] at h
      exact osc h fun _ => rfl
  · cases h
theorem sc_minl : ∀ ds z, bMinL ds = some z → isSc z = true := fun ds z h => by
  unfold bMinL at h
  split at h
  · rename_i xs
    cases e : asInts xs with
    | none => rw [e] at h; cases h
    | some ns =>
      rw [e] at h
      exact osc h fun _ => rfl
  · cases h
theorem sc_cmp {p : Int → Int → Bool} : ∀ d e z, opCmp p d e = some z → isSc z = true := fun d e z h => by
  unfold opCmp at h
  split at h <;> cases h
  rfl
theorem sc_eq : ∀ d e z, opEq d e = some z → isSc z = true := fun d e z h => by
  unfold opEq at h
  split at h <;> cases h
  rfl
theorem sc_ne : ∀ d e z, opNe d e = some z → isSc z = true := fun d e z h => by
  unfold opNe at h
  split at h <;> cases h
  rfl
theorem sc_in : ∀ d e z, opIn d e = some z → isSc z = true := fun d e z h => osc h fun _ => rfl
theorem sc_notIn : ∀ d e z, opNotIn d e = some z → isSc z = true := fun d e z h => osc h fun _ => rfl
theorem sc_is : ∀ d e z, opIs d e = some z → isSc z = true := fun d e z h => by
  unfold opIs at h
  split at h <;> cases h
  rfl
theorem sc_isnt : ∀ d e z, opIsnt d e = some z → isSc z = true := fun d e z h => by
  unfold opIsnt at h
  split at h <;> cases h
  rfl

/-! ### calls of built-ins -/
section
variable {K : PySem.W.Frag} {M : List Nat} {W : WX} {X : Cx} {pu pu1 pu2 : Bool} {lv l1 l2 : Lv}
theorem so_cb {r : List V → Hp → VK → Prop} {op : List D → Option D} {ta : TA} {fa : FA} (ho : CbF K r op) (ha : SoundG K M W (PL K M l1) pu ta fa) (hl : (lv = .u) ∨ l1 = .c ∨ ∀ d z, op d = some z → isSc z = true) : SoundG K M W (PV K M lv) pu (tCB r ta) (fCall op fa) := by
  intro g σ H ρ Q R h
  refine ha.bind R h fun d ρ1 v H1 _ R1 w1 dv1 h1 => ?_
  cases hz : op d with
  | none => rw [hz] at h1; exact h1.elim
  | some z =>
    rw [hz] at h1
    have fin : ∀ u H3, Ex H1 H3 → Dv K M g σ H3 ρ1 lv u z → Q u H3 := fun u H3 e3 dz => PostG.fin h1 (R1.kpH e3) (w1.ex e3) dz
    have du : DqA K H1 g.A v d := by
      cases l1 with
      | c => exact DqA.anti (show DqA K H1 (Avs M g σ ρ1) v d from dv1) fun a _ z => .inl z
      | o => exact dv1
      | u => exact dv1
    rcases hl with rfl | rfl | hl
    · exact ho H1 g.A v d z Q du hz fun u H3 e3 dz => fin u H3 e3 dz
    · exact ho H1 _ v d z Q dv1 hz fun u H3 e3 dz => fin u H3 e3 (Dv.toC dz)
    · exact ho H1 g.A v d z Q du hz fun u H3 e3 dz => fin u H3 e3 (Dv.ofSc (lv := .u) (σ := σ) (ρ := ρ1) (M := M) (g := g) dz (hl d z hz))
variable {x : Str} {p pos : Pos} {e : Expr} {es : List Expr} {t : TA} {fa : FA} {r : List V → Hp → VK → Prop} {op : List D → Option D}
theorem ev_callB {id : String} (hc : CallR X (.builtin id) r) (ho : CbF K r op) (hg : Gl X x) (hm : X.mg x = none) (hv : bootBuiltins x = some (.builtin id)) (ha : EvA K M W X l1 pu (e :: es) t fa) (hl : (lv = .u) ∨ l1 = .c ∨ ∀ d z, op d = some z → isSc z = true) (hn : x ≠ "__name__" := by decide) (hdb : (x == ("__debug__" : Str)) = false := by decide)
    (he : starEach (e :: es) X.env = (false, eval e X.env) :: starEach es X.env := by rfl) (hpl : (backTo pos (starEach es X.env)).any (·.1) = false := by rfl) : EvD K M W X lv pu (.Call (.Name x p) (e :: es) [] pos) (tCB r t) (fCall op fa) :=
  ⟨pe_callB hc hg hm hv ha.pe hn hdb he hpl, so_cb ho ha.so hl⟩
theorem ev_callTy {T : String} (hc : CallR X (.type T) r) (ho : CbF K r op) (hg : Gl X x) (hm : X.mg x = none) (hv : bootBuiltins x = some (.type T)) (ha : EvA K M W X l1 pu (e :: es) t fa) (hl : (lv = .u) ∨ l1 = .c ∨ ∀ d z, op d = some z → isSc z = true) (hn : x ≠ "__name__" := by decide) (hdb : (x == ("__debug__" : Str)) = false := by decide)
    (he : starEach (e :: es) X.env = (false, eval e X.env) :: starEach es X.env := by rfl) (hpl : (backTo pos (starEach es X.env)).any (·.1) = false := by rfl) : EvD K M W X lv pu (.Call (.Name x p) (e :: es) [] pos) (tCB r t) (fCall op fa) :=
  ⟨pe_callTy hc hg hm hv ha.pe hn hdb he hpl, so_cb ho ha.so hl⟩
theorem ev_callBf {id : String} (hc : CallR X (.builtin id) r) (ho : CbF K r op) (hg : Gl X x) (hm : X.mg x = some (.builtin id)) (ha : EvA K M W X l1 pu (e :: es) t fa) (hl : (lv = .u) ∨ l1 = .c ∨ ∀ d z, op d = some z → isSc z = true) (hdb : (x == ("__debug__" : Str)) = false := by decide)
    (he : starEach (e :: es) X.env = (false, eval e X.env) :: starEach es X.env := by rfl) (hpl : (backTo pos (starEach es X.env)).any (·.1) = false := by rfl) : EvD K M W X lv pu (.Call (.Name x p) (e :: es) [] pos) (tCB r t) (fCall op fa) :=
  ⟨pe_callBfun hc hg hm ha.pe hdb he hpl, so_cb ho ha.so hl⟩
end
end DL

namespace DL
open PySem PySem.Spec PyProof.Rows L2

/-! ### subscripts and slices -/
def fOwnIx (i : Nat) (f : FE) : FE := fun ρ => match ρ[i]? with
  | some (some _) => (f ρ).bind fun e ρ1 => match ρ1[i]? with
    | some (some d) => ofO (opIx d e) ρ1
    | _ => .bad
  | _ => .bad
abbrev FO := Rho → Out (Option Int)
def fNoPart : FO := fun ρ => .ok none ρ
def fPart (f : FE) : FO := fun ρ => (f ρ).bind fun d ρ1 => match d with
  | .int i => .ok (some i) ρ1
  | _ => .bad
def fSl (f : FE) (lo hi : FO) : FE := fun ρ => (f ρ).bind fun d ρ1 => (lo ρ1).bind fun l ρ2 => (hi ρ2).bind fun h ρ3 => ofO (opSl d l h) ρ3
def PO' : Gh → L2.St → Hp → Rho → Option Int → Option Int → Prop := fun _ _ _ _ a b => a = b
structure EvO (K : PySem.W.Frag) (M : List Nat) (W : WX) (X : Cx) (pu : Bool) (e : Option Expr) (t : TO) (f : FO) : Prop where
  pe : PO X e t
  so : SoundG K M W PO' pu t f
def isTy : D → String → Bool
  | .non, T => T == "NoneType"
  | .bl _, T => T == "bool" || T == "int"
  | .int _, T => T == "int"
  | .str _, T => T == "str"
  | .tup _, T => T == "tuple"
  | .lst _, T => T == "list"
  | .fl _, T => T == "list"
  | .dct, T => T == "dict"
def tyName : D → String
  | .non => "NoneType"
  | .bl _ => "bool"
  | .int _ => "int"
  | .str _ => "str"
  | .tup _ => "tuple"
  | .lst _ => "list"
  | .fl _ => "list"
  | .dct => "dict"
def fIsi (T : String) (f : FE) : FE := fun ρ => (f ρ).bind fun d ρ1 => .ok (.bl (isTy d T)) ρ1
def fIsi2 (T U : String) (f : FE) : FE := fun ρ => (f ρ).bind fun d ρ1 => .ok (.bl (isTy d T || isTy d U)) ρ1
def kitT : List String := ["int", "bool", "str", "tuple", "list", "dict"]
theorem kit_all : (kitT.all fun T => ["NoneType", "bool", "int", "str", "tuple", "list", "dict"].all fun a => kitB a T == some (a == T || (a == "bool" && T == "int"))) = true := by decide +kernel
theorem kit_ok {d : D} {T : String} (h : T ∈ kitT) : kitB (tyName d) T = some (isTy d T) := by
  have h1 := List.all_eq_true.mp kit_all T h
  have h2 := List.all_eq_true.mp h1 (tyName d) (by cases d <;> simp [tyName])
  have h3 : kitB (tyName d) T = some (tyName d == T || (tyName d == "bool" && T == "int")) := by simpa using h2
  rw [h3]
  refine congrArg some ?_
  have hT : T ∈ ["int", "bool", "str", "tuple", "list", "dict"] := h
  simp only [List.mem_cons, List.not_mem_nil, or_false] at hT
  rcases hT with rfl | rfl | rfl | rfl | rfl | rfl <;> cases d <;> rfl

section
variable {K : PySem.W.Frag} {M : List Nat} {W : WX} {X : Cx} {pu pu1 pu2 pu3 : Bool} {lv l1 l2 : Lv}
theorem ev_ix {a b : Expr} {ta tb : TE} {fa fb : FE} {pos : Pos} (hK : X.K = K) (hs : PlainIx b) (ha : EvD K M W X .c pu1 a ta fa) (hb : EvD K M W X .c pu2 b tb fb) : EvD K M W X .c (pu1 && pu2) (.Subscript a b pos) (tOp (rIx K) ta tb) (fOp opIx fa fb) := by
  subst hK
  exact ⟨pe_ix ix_3 ha.pe hb.pe hs, so_op of_ix ha.so hb.so (.inl rfl) (.inr (.inl ⟨rfl, rfl⟩))⟩
/-- an item of a slot's own list -/
theorem ev_ownIx {i : Nat} {x : Str} {b : Expr} {tb : TE} {fb : FE} {pos pos' : Pos} (hK : X.K = K) (hN : X.N[i]? = some x) (hv : Vis X.env.scope x) (hi : i ∈ M) (hs : PlainIx b) (hb : EvD K M W X l1 pu b tb fb) (hd : (x == ("__debug__" : Str)) = false := by decide) (hcd : (x == ("__classdict__" : Str)) = false := by decide) :
    EvD K M W X .c pu (.Subscript (.Name x pos') b pos) (tOp (rIx K) (tVar i) tb) (fOwnIx i fb) := by
  subst hK
  refine ⟨pe_ix ix_3 (pe_var hN hv hd hcd) hb.pe hs, fun g σ H ρ Q R h => ?_⟩
  unfold fOwnIx at h
  cases e : ρ[i]? with
  | none => rw [e] at h; exact h.elim
  | some o =>
    cases o with
    | none => rw [e] at h; exact h.elim
    | some d0 =>
      simp only [e] at h
      obtain ⟨a, _, _, _, h1, _⟩ := R.own i d0 hi e
      refine ⟨.ref a, h1, ?_⟩
      refine hb.so.bind R h fun d ρ1 v H1 _ R1 w1 dv1 h2 => ?_
      cases e1 : ρ1[i]? with
      | none => simp only [e1] at h2; exact h2.elim
      | some o1 =>
        cases o1 with
        | none => simp only [e1] at h2; exact h2.elim
        | some d1 =>
          simp only [e1] at h2
          obtain ⟨a1, vs, ds, rfl, h3, h4, h5, _⟩ := R1.own i d1 hi e1
          rw [h1] at h3
          cases h3
          have du := (show Dv X.K M g σ H1 ρ1 l1 v d from dv1).u
          cases hz : opIx (.lst ds) d with
          | none => rw [hz] at h2; exact h2.elim
          | some z =>
            rw [hz] at h2
            cases du with
            | int k =>
              obtain ⟨w, k1, k2⟩ := h5.atI hz
              exact .inl ⟨a, vs, k, w, rfl, rfl, .inl (.inl h4), k1, PostG.fin h2 R1 w1 k2⟩
            | _ => cases hz
theorem eo_none : EvO K M W X true none tNoPart fNoPart := ⟨po_none, fun g σ H ρ Q R h => PostG.fin (v := (none : Option Int)) h R Gone.refl rfl⟩
theorem eo_some {e : Expr} {t : TE} {f : FE} (h : EvD K M W X lv pu e t f) : EvO K M W X pu (some e) (tPart t) (fPart f) := by
  refine ⟨po_some h.pe, fun g σ H ρ Q R q => ?_⟩
  refine h.so.bind R q fun d ρ1 v H1 _ R1 w1 dv1 h1 => ?_
  have du := (show Dv K M g σ H1 ρ1 lv v d from dv1).u
  cases du with
  | int i => exact ⟨i, rfl, PostG.fin (v := some i) h1 R1 w1 rfl⟩
  | _ => exact h1.elim
theorem ev_sl {a : Expr} {lo hi : Option Expr} {ta : TE} {tl th : TO} {fa : FE} {fl fh : FO} {p2 pos : Pos} (hK : X.K = K) (ha : EvD K M W X .c pu1 a ta fa) (hl : EvO K M W X pu2 lo tl fl) (hh : EvO K M W X pu3 hi th fh) :
    EvD K M W X .c (pu1 && pu2 && pu3) (.Subscript a (.Slice lo hi none p2) pos) (tSl (rSl3 K) ta tl th) (fSl fa fl fh) := by
  subst hK
  refine ⟨pe_slice sl_3 ha.pe hl.pe hh.pe, fun g σ H ρ Q R h => ?_⟩
  refine ha.so.bind R h fun d ρ1 v H1 _ R1 w1 dv1 h1 => ?_
  refine hl.so.bind R1 h1 fun l ρ2 l' H2 _ R2 w2 dl h2 => ?_
  cases (show l' = l from dl)
  refine hh.so.bind R2 h2 fun u ρ3 u' H3 _ R3 w3 du h3 => ?_
  cases (show u' = u from du)
  have w := (w1.trans w2).trans w3
  have dv : Dq X.K H3 (Avs M g σ ρ3) v d := (((show Dv X.K M g σ H1 ρ1 .c v d from dv1).gone w2 (.inl rfl)).gone w3 (.inl rfl))
  cases hz : opSl d l u with
  | none => rw [hz] at h3; exact h3.elim
  | some z =>
    rw [hz] at h3
    have fin : ∀ v' H4, Ex H3 H4 → Dq X.K H4 (Avs M g σ ρ3) v' z → Q v' H4 := fun v' H4 e4 dz => PostG.fin h3 (R3.kpH e4) (w.ex e4) dz
    cases dv with
    | str s =>
      unfold opSl at hz
      simp only at hz
      split at hz
      · rename_i hl
        cases hz
        refine .inl ⟨_, rfl, lim_le (by show s.toArray.size ≤ lim; simpa using hl), fin _ _ (Ex.refl _) ?_⟩
        have e : cutS ⟨s.toArray⟩ l u = ⟨(cutL s l u).toArray⟩ := by
          unfold cutS cutL
          simp [Str.length]
        rw [e]
        exact .str _
      · cases hz
    | lst s a =>
      cases hz
      refine .inr (.inl ⟨_, _, rfl, s.seq, fun p np => fin _ _ (Ex.new np) (dq_lst (a.cut l u) np fun q => ?_)⟩)
      exact R3.avs p q np
    | tup s a =>
      cases hz
      refine .inr (.inr ⟨_, _, rfl, s, fun q => ?_, fun _ p np => fin _ _ (Ex.new np) (dq_tup (a.cut l u) np)⟩)
      rw [a.length] at q
      refine fin _ _ (Ex.refl _) ?_
      rw [cutL_all q]
      exact .tup s a
    | _ => cases hz

/-! ### isinstance -/
theorem tyx {H : Hp} {A : Addr → Prop} {v : V} {d : D} (h : Dq K H A v d) : TyX K H v (.type (tyName d)) := by
  cases h with
  | non => exact .base .non
  | bl b => exact .base (.bl b)
  | int i => exact .base (.int i)
  | str s => exact .base (.str _)
  | tup s a =>
    rcases s with (s | ⟨o, s⟩) | ⟨o, its, n, s, c, _⟩
    · exact .base (.tup s)
    · exact .fTuple s
    · exact .kTuple s c
  | lst s a => exact .base (.lst s.2)
  | fl s a =>
    rcases s with ⟨_, s⟩ | ⟨o, s⟩ | ⟨o, its, n, s, c, _⟩
    · exact .base (.lst s)
    · exact .base (.frz s)
    · exact .kList s c
  | dct s => exact .base (.dK s)
theorem kit2 {d : D} {T U : String} (hT : T ∈ kitT) (hU : U ∈ kitT) : PySem.W.kitAny K (.type (tyName d)) [.type T, .type U] = some (isTy d T || isTy d U) := by
  refine kitAny_cons (kit_ty (kit_ok hT)) (fun e => ?_) (fun e => by rw [e]; rfl)
  rw [e, Bool.false_or]
  exact kitAny_cons (kit_ty (kit_ok hU)) (fun e => by rw [e]; exact kitAny_nil) (fun e => e)
theorem ev_isi (T : String) {e : Expr} {te : TE} {fe : FE} {x y : Str} {p p2 pos : Pos} (hK : X.K = K) (hT : T ∈ kitT) (hx : x = "isinstance") (hg : Gl X x) (hm : X.mg x = none) (hg2 : Gl X y) (hm2 : X.mg y = none) (hv : bootBuiltins y = some (.type T)) (ha : EvD K M W X l1 pu e te fe) (hn : y ≠ "__name__" := by decide) (hdb : (y == ("__debug__" : Str)) = false := by decide)
    (hs : starEach [e, .Name y p2] X.env = (false, eval e X.env) :: starEach [.Name y p2] X.env := by rfl) (hs2 : starEach [.Name y p2] X.env = (false, eval (.Name y p2) X.env) :: starEach [] X.env := by rfl) (hpl : (backTo pos (starEach [.Name y p2] X.env)).any (·.1) = false := by rfl) :
    EvD K M W X .c pu (.Call (.Name x p) [e, .Name y p2] [] pos) (tCB (rIsi K) (tCons te (tCons (tC (.ty T)) tNil))) (fIsi T fe) := by
  subst hK
  subst hx
  refine ⟨pe_callB call_isi hg hm (by decide +kernel) (pa_cons ha.pe (pa_cons (pe_bltn hg2 hm2 hv rfl hn hdb) pa_nil hs2) hs) (by decide) (by decide) hs hpl, fun g σ H ρ Q R h => ?_⟩
  refine ha.so.bind R h fun d ρ1 v H1 _ R1 w1 dv1 h1 => ?_
  have du := (show Dv X.K M g σ H1 ρ1 l1 v d from dv1).u
  exact ⟨v, .ty T, _, .type T, _, rfl, .ty T, tyx du, kit_ty (kit_ok hT), PostG.fin h1 R1 w1 (show Dv X.K M g σ H1 ρ1 .c (.bl (isTy d T)) (.bl (isTy d T)) from Dv.toC (.bl _))⟩
theorem ev_isi2 (T U : String) {e : Expr} {te : TE} {fe : FE} {x y z : Str} {x1} {p p2 p3 pt pos : Pos} (hK : X.K = K) (hT : T ∈ kitT) (hU : U ∈ kitT) (hx : x = "isinstance") (hg : Gl X x) (hm : X.mg x = none) (hg2 : Gl X y) (hm2 : X.mg y = none) (hv : bootBuiltins y = some (.type T)) (hg3 : Gl X z) (hm3 : X.mg z = none) (hv3 : bootBuiltins z = some (.type U)) (ha : EvD K M W X l1 pu e te fe) (hn : y ≠ "__name__" := by decide) (hdb : (y == ("__debug__" : Str)) = false := by decide) (hn3 : z ≠ "__name__" := by decide) (hdb3 : (z == ("__debug__" : Str)) = false := by decide)
    (hs : starEach [e, .Tuple [.Name y p2, .Name z p3] x1 pt] X.env = (false, eval e X.env) :: starEach [.Tuple [.Name y p2, .Name z p3] x1 pt] X.env := by rfl) (hs2 : starEach [.Tuple [.Name y p2, .Name z p3] x1 pt] X.env = (false, eval (.Tuple [.Name y p2, .Name z p3] x1 pt) X.env) :: starEach [] X.env := by rfl)
    (hs3 : starEach [.Name y p2, .Name z p3] X.env = (false, eval (.Name y p2) X.env) :: starEach [.Name z p3] X.env := by rfl) (hs4 : starEach [.Name z p3] X.env = (false, eval (.Name z p3) X.env) :: starEach [] X.env := by rfl) (hpl : (backTo pos (starEach [.Tuple [.Name y p2, .Name z p3] x1 pt] X.env)).any (·.1) = false := by rfl) :
    EvD K M W X .c pu (.Call (.Name x p) [e, .Tuple [.Name y p2, .Name z p3] x1 pt] [] pos) (tCB (rIsiT K) (tCons te (tCons (tTup (tCons (tC (.ty T)) (tCons (tC (.ty U)) tNil))) tNil))) (fIsi2 T U fe) := by
  subst hK
  subst hx
  refine ⟨pe_callB call_isiT hg hm (by decide +kernel) (pa_cons ha.pe (pa_cons (pe_tup (pa_cons (pe_bltn hg2 hm2 hv rfl hn hdb) (pa_cons (pe_bltn hg3 hm3 hv3 rfl hn3 hdb3) pa_nil hs4) hs3)) pa_nil hs2) hs) (by decide) (by decide) hs hpl, fun g σ H ρ Q R h => ?_⟩
  refine ha.so.bind R h fun d ρ1 v H1 _ R1 w1 dv1 h1 => ?_
  have du := (show Dv X.K M g σ H1 ρ1 l1 v d from dv1).u
  refine ⟨(by show 2 ≤ sizeLine; decide), fun t nt => ?_⟩
  have e := Ex.new (o := .tup [.ty T, .ty U]) nt
  exact ⟨v, t, _, _, [.type T, .type U], _, rfl, upd_same, .cons (.ty T) (.cons (.ty U) .nil), tyx (du.ex e), kit2 hT hU, PostG.fin h1 (R1.kpH e) (w1.ex e) (show Dv X.K M g σ _ ρ1 .c (.bl (isTy d T || isTy d U)) (.bl (isTy d T || isTy d U)) from Dv.toC (.bl _))⟩

/-! ### methods of texts -/
def fM1 (op : List D → Option D) (f h : FE) : FE := fun ρ => (f ρ).bind fun d ρ1 => match d with
  | .str s => (h ρ1).bind fun e ρ2 => ofO (op [.str s, e]) ρ2
  | _ => .bad
theorem so_m1 {r : V → List V → Hp → VK → Prop} {op : List D → Option D} {ta tb : TE} {fa fb : FE} (ho : ∀ (H : Hp) (A : Addr → Prop) (s : List Nat) (y : V) (e z : D) (Q : VK), Dq K H A y e → op [.str s, e] = some z → (∀ v H', Ex H H' → Dq K H' A v z → Q v H') → r (.str ⟨s.toArray⟩) [y] H Q)
    (hsc : ∀ d z, op d = some z → isSc z = true) (ha : SoundG K M W (PV K M l1) pu1 ta fa) (hb : SoundG K M W (PV K M l2) pu2 tb fb) : SoundG K M W (PV K M .c) (pu1 && pu2) (tM1 r ta tb) (fM1 op fa fb) := by
  intro g σ H ρ Q R h
  refine ha.bind R h fun d ρ1 v H1 _ R1 w1 dv1 h1 => ?_
  have du := (show Dv K M g σ H1 ρ1 l1 v d from dv1).u
  cases du with
  | str s =>
    refine ⟨⟨_, rfl⟩, ?_⟩
    refine hb.bind R1 h1 fun e ρ2 w H2 _ R2 w2 dv2 h2 => ?_
    cases hz : op [.str s, e] with
    | none => rw [hz] at h2; exact h2.elim
    | some z =>
      rw [hz] at h2
      exact ho H2 g.A s w e z Q (show Dv K M g σ H2 ρ2 l2 w e from dv2).u hz fun u H3 e3 dz => PostG.fin h2 (R2.kpH e3) ((w1.trans w2).ex e3) (Dv.ofSc (lv := .u) (σ := σ) (ρ := ρ2) (M := M) (g := g) dz (hsc _ z hz))
  | _ => exact h1.elim
def rCountM : V → List V → Hp → VK → Prop := fun x xs H Q => ∃ a b, x = .str a ∧ xs = [.str b] ∧ Q (.int (Txt.count a b)) H
theorem sc_count : ∀ ds z, bCount ds = some z → isSc z = true := fun ds z h => by
  unfold bCount at h
  split at h <;> cases h
  rfl
theorem sc_join : ∀ ds z, bJoin ds = some z → isSc z = true := fun ds z h => by
  unfold bJoin at h
  split at h
  · rename_i a xs
    cases e : asStrs xs with
    | none => rw [e] at h; cases h
    | some ys =>
      rw [e] at h
      simp only [Option.bind_some] at h
      split at h <;> cases h
      rfl
  · rename_i a xs
    cases e : asStrs xs with
    | none => rw [e] at h; cases h
    | some ys =>
      rw [e] at h
      simp only [Option.bind_some] at h
      split at h <;> cases h
      rfl
  · cases h
theorem ev_count {a b : Expr} {ta tb : TE} {fa fb : FE} {apos pos : Pos} (ha : EvD K M W X l1 pu1 a ta fa) (hb : EvD K M W X l2 pu2 b tb fb) (hs : starEach [b] X.env = [(false, eval b X.env)] := by rfl) (hbase : attributeBase a "count" X.env (eval a X.env) = eval a X.env := by rfl) (hline : (apos.endLine == pos.line) = true := by rfl) :
    EvD K M W X .c (pu1 && pu2) (.Call (.Attribute a "count" apos) [b] [] pos) (tM1 rCountM ta tb) (fM1 bCount fa fb) := by
  refine ⟨pe_m1 PySem.F.slot_str_count PySem.F.type_str_count mt_count ha.pe hb.pe hs hbase hline, so_m1 (fun H A s y e z Q hy hz q => ?_) sc_count ha.so hb.so⟩
  unfold bCount at hz
  split at hz
  · rename_i s' c heq
    cases heq
    cases hy
    cases hz
    refine ⟨_, _, rfl, rfl, ?_⟩
    show Q (.int (Txt.count ⟨s.toArray⟩ ⟨#[c]⟩)) H
    rw [count_sign]
    exact q _ _ (Ex.refl H) (.int _)
  · cases hz
def rJoinM (K : PySem.W.Frag) : V → List V → Hp → VK → Prop := fun x xs H Q => ∃ a p, ∃ ys : List Str, x = .str a ∧ xs = [.ref p] ∧ (SqL K H p (ys.map V.str) ∨ SqT K H p (ys.map V.str)) ∧ (ys.map (·.length)).sum + ys.length * a.length ≤ 16777216 ∧ Q (.str (Txt.join a ys)) H
theorem join_mk (a : List Nat) (ys : List (List Nat)) : Txt.join ⟨a.toArray⟩ (ys.map fun s => (⟨s.toArray⟩ : Str)) = ⟨(TL.joinL a ys).toArray⟩ := by
  rw [TL.join_eq]
  have h := TL.tl_join ⟨a.toArray⟩ (ys.map fun s => (⟨s.toArray⟩ : Str))
  have e : (ys.map fun s => (⟨s.toArray⟩ : Str)).map TL.tl = ys := by
    rw [List.map_map]
    refine (List.map_congr_left fun s _ => ?_).trans (List.map_id ys)
    show s.toArray.toList = s
    simp
  rw [e] at h
  have h2 : (Str.join ⟨a.toArray⟩ (ys.map fun s => (⟨s.toArray⟩ : Str))).cps.toList = TL.joinL a ys := by
    have e3 : TL.tl ⟨a.toArray⟩ = a := by
      show a.toArray.toList = a
      simp
    rw [e3] at h
    exact h
  rw [← h2]
theorem ev_join {a b : Expr} {ta tb : TE} {fa fb : FE} {apos pos : Pos} (hK : X.K = K) (ha : EvD K M W X l1 pu1 a ta fa) (hb : EvD K M W X l2 pu2 b tb fb) (hs : starEach [b] X.env = [(false, eval b X.env)] := by rfl) (hbase : attributeBase a "join" X.env (eval a X.env) = eval a X.env := by rfl) (hline : (apos.endLine == pos.line) = true := by rfl) :
    EvD K M W X .c (pu1 && pu2) (.Call (.Attribute a "join" apos) [b] [] pos) (tM1 (rJoinM K) ta tb) (fM1 bJoin fa fb) := by
  subst hK
  refine ⟨pe_join ha.pe hb.pe hs hbase hline, so_m1 (fun H A s y e z Q hy hz q => ?_) sc_join ha.so hb.so⟩
  unfold bJoin at hz
  split at hz
  · rename_i s' xs heq
    cases heq
    cases e : asStrs xs with
    | none => rw [e] at hz; cases hz
    | some ys =>
      rw [e] at hz
      simp only [Option.bind_some] at hz
      split at hz
      · rename_i hlen
        cases hz
        have ex := asStrs_eq e
        subst ex
        cases hy with
        | lst sq aa =>
          rw [aa.strs] at sq
          refine ⟨_, _, ys.map fun s => (⟨s.toArray⟩ : Str), rfl, rfl, .inl sq.seq, ?_, ?_⟩
          · have e1 : ((ys.map fun s => (⟨s.toArray⟩ : Str)).map (·.length)).sum = sumLen ys := by
              unfold sumLen
              rw [List.map_map]
              refine congrArg List.sum (List.map_congr_left fun s _ => ?_)
              show s.toArray.size = s.length
              simp
            rw [e1, List.length_map, show (⟨s.toArray⟩ : Str).length = s.length by simp [Str.length]]
            omega
          · rw [join_mk]
            exact q _ _ (Ex.refl H) (.str _)
      · cases hz
  · rename_i s' xs heq
    cases heq
    cases e : asStrs xs with
    | none => rw [e] at hz; cases hz
    | some ys =>
      rw [e] at hz
      simp only [Option.bind_some] at hz
      split at hz
      · rename_i hlen
        cases hz
        have ex := asStrs_eq e
        subst ex
        cases hy with
        | tup sq aa =>
          rw [aa.strs] at sq
          refine ⟨_, _, ys.map fun s => (⟨s.toArray⟩ : Str), rfl, rfl, .inr sq, ?_, ?_⟩
          · have e1 : ((ys.map fun s => (⟨s.toArray⟩ : Str)).map (·.length)).sum = sumLen ys := by
              unfold sumLen
              rw [List.map_map]
              refine congrArg List.sum (List.map_congr_left fun s _ => ?_)
              show s.toArray.size = s.length
              simp
            rw [e1, List.length_map, show (⟨s.toArray⟩ : Str).length = s.length by simp [Str.length]]
            omega
          · rw [join_mk]
            exact q _ _ (Ex.refl H) (.str _)
      · cases hz
  · cases hz
end
end DL

namespace DL
open PySem PySem.Spec PyProof.Rows L2

/-! ### defs: their promises -/
inductive Res where
  | ok (d : D) | exc (x : Exn) | bad
/-- a def of n arguments that changes nothing; f: what it hands back -/
def spF (K : PySem.W.Frag) (n : Nat) (f : List D → Res) : Sp := fun vs H Q E => ∃ (A : Addr → Prop) (ds : List D), (∀ a, A a → H a ≠ none) ∧ ds.length = n ∧ DqA K H A vs ds ∧ match f ds with
  | .ok d => ∀ v H', Ex H H' → Dq K H' A v d → Q v H'
  | .exc x => ∀ c dd H', Ex H H' → XRep K H' x c dd → E c dd H'
  | .bad => False
inductive ResR where
  | ok (d : D) (row : List D) | bad
/-- a def whose first argument is a list that it changes -/
def spR (K : PySem.W.Frag) (n : Nat) (f : List D → List D → ResR) : Sp := fun vs H Q E => ∃ (A : Addr → Prop) (a : Addr) (vs' ws : List V) (ds row : List D), vs = .ref a :: vs' ∧ (∀ a, A a → H a ≠ none) ∧ A a ∧ H a = some (.lst ws) ∧ DqA K H A ws row ∧ ds.length = n ∧ DqA K H A vs' ds ∧ match f row ds with
  | .ok d row' => ∀ v H' ws', Kp (fun b => b = a) H H' → H' a = some (.lst ws') → DqA K H' A ws' row' → Dq K H' A v d → Q v H'
  | .bad => False
theorem spF_len {K : PySem.W.Frag} {n : Nat} {f : List D → Res} : ∀ vs H Q E, spF K n f vs H Q E → vs.length = n := fun vs H Q E ⟨A, ds, _, hl, h, _⟩ => h.length.trans hl
theorem spR_len {K : PySem.W.Frag} {n : Nat} {f : List D → List D → ResR} : ∀ vs H Q E, spR K n f vs H Q E → vs.length = n + 1 := fun vs H Q E ⟨A, a, vs', ws, ds, row, e, _, _, _, _, hl, h, _⟩ => by
  rw [e, List.length_cons, h.length, hl]
def fCallF (f : List D → Res) (a : FA) : FE := fun ρ => (a ρ).bind fun ds ρ1 => match f ds with
  | .ok d => .ok d ρ1
  | .exc x => .exc x ρ1
  | .bad => .bad
def fRow (i : Nat) (f : List D → List D → ResR) (a : FA) : FE := fun ρ => match ρ[i]? with
  | some (some _) => (a ρ).bind fun ds ρ1 => match ρ1[i]? with
    | some (some (.lst row)) => match f row ds with
      | .ok d row' => .ok d (ρ1.set i (some (.lst row')))
      | .bad => .bad
    | _ => .bad
  | _ => .bad
theorem own_set {M : List Nat} {σ : L2.St} {ρ : Rho} {i : Nat} {d d' : D} (h : ρ[i]? = some (some d)) : Own M σ (ρ.set i (some d')) = Own M σ ρ := by
  funext a
  have key : ∀ j, (∃ e, (ρ.set i (some d'))[j]? = some (some e)) ↔ ∃ e, ρ[j]? = some (some e) := fun j => by
    by_cases hj : i = j
    · subst hj
      have hlt : i < ρ.length := (List.getElem?_eq_some_iff.mp h).1
      have e1 : (ρ.set i (some d'))[i]? = some (some d') := List.getElem?_set_self hlt
      exact ⟨fun _ => ⟨d, h⟩, fun _ => ⟨d', e1⟩⟩
    · have e2 : (ρ.set i (some d'))[j]? = ρ[j]? := List.getElem?_set_ne hj
      exact ⟨fun ⟨e, q⟩ => ⟨e, e2.symm.trans q⟩, fun ⟨e, q⟩ => ⟨e, e2.trans q⟩⟩
  unfold Own OwnAt
  simp only [key]

section
variable {K : PySem.W.Frag} {M : List Nat} {W : WX} {X : Cx} {pu pu1 pu2 pu3 : Bool} {lv l1 l2 : Lv}
theorem ev_call {k : Nat} {f : Addr} {fd : FuncData} {ps : List Str} {n : Nat} {sem : List D → Res} {x : Str} {p pos : Pos} {e : Expr} {es : List Expr} {t : TA} {fa : FA}
    (F : FnOk X.prog X.w X.K X.mg X.base (L2.CX X.prog X.w) k f fd ps (spF K n sem)) (hr : Room k X.A) (hg : Gl X x) (hm : X.mg x = some (.ref f)) (hk : PySem.W.keepIn X.K (.ref f) = true) (hb : Binds X.K fd ps []) (tk : Takes X W) (hn : n = (e :: es).length)
    (ha : EvA K M W X l1 pu (e :: es) t fa) (hl : lv = .c → l1 = .c) (ho : lv ≠ .o := by decide) (hdb : (x == ("__debug__" : Str)) = false := by decide) (he : starEach (e :: es) X.env = (false, eval e X.env) :: starEach es X.env := by rfl) (hpl : (backTo pos (starEach es X.env)).any (·.1) = false := by rfl)
    (hlen : ∀ ρ ds ρ', fa ρ = .ok ds ρ' → ds.length = n) :
    EvD K M W X lv pu (.Call (.Name x p) (e :: es) [] pos) (tCallS (spF K n sem) (WE W) t) (fCallF sem fa) := by
  refine ⟨pe_callS F hr hg hm hk hb (passAt tk) ha.pe hdb he hpl, fun g σ H ρ Q R h => ?_⟩
  refine ha.so.bind R h fun ds ρ1 vs H1 eq R1 w1 dv1 h1 => ?_
  have fin : ∀ (A : Addr → Prop), (∀ a, A a → H1 a ≠ none) → DqA K H1 A vs ds → (∀ v H' d, Ex H1 H' → Dq K H' A v d → Dv K M g σ H' ρ1 lv v d) → spF K n sem vs H1 Q (WE W σ) := fun A hA hd hv => by
    refine ⟨A, ds, hA, hlen ρ ds ρ1 eq, hd, ?_⟩
    cases hs : sem ds with
    | ok d =>
      simp only [hs] at h1
      exact fun v H' ex dq => PostG.fin h1 (R1.kpH ex) (w1.ex ex) (hv v H' d ex dq)
    | exc y =>
      simp only [hs] at h1
      exact fun c dd H' ex xr => h1 c dd H' (R1.kpH ex) xr
    | bad =>
      simp only [hs] at h1
      exact h1.elim
  by_cases hc : l1 = .c
  · subst hc
    exact fin (Avs M g σ ρ1) (fun a q => R1.avs a q) dv1 fun v H' d _ dq => Dv.toC dq
  · have du : DqA K H1 g.A vs ds := by
      cases l1 with
      | c => exact (hc rfl).elim
      | o => exact dv1
      | u => exact dv1
    refine fin g.A (fun a q => R1.avs a (.inl q)) du fun v H' d _ dq => ?_
    cases lv with
    | c => exact (hc (hl rfl)).elim
    | o => exact (ho rfl).elim
    | u => exact dq
theorem ev_row {k : Nat} {f : Addr} {fd : FuncData} {ps : List Str} {n i : Nat} {sem : List D → List D → ResR} {x y : Str} {p py pos : Pos} {es : List Expr} {t : TA} {fa : FA}
    (F : FnOk X.prog X.w X.K X.mg X.base (L2.CX X.prog X.w) k f fd ps (spR K n sem)) (hr : Room k X.A) (hg : Gl X x) (hm : X.mg x = some (.ref f)) (hk : PySem.W.keepIn X.K (.ref f) = true) (hb : Binds X.K fd ps []) (tk : Takes X W)
    (hN : X.N[i]? = some y) (hv : Vis X.env.scope y) (hi : i ∈ M)
    (ha : EvA K M W X .c pu es t fa) (hdb : (x == ("__debug__" : Str)) = false := by decide) (hd : (y == ("__debug__" : Str)) = false := by decide) (hcd : (y == ("__classdict__" : Str)) = false := by decide)
    (he : starEach (.Name y py :: es) X.env = (false, eval (.Name y py) X.env) :: starEach es X.env := by rfl) (hpl : (backTo pos (starEach es X.env)).any (·.1) = false := by rfl)
    (hlen : ∀ ρ ds ρ', fa ρ = .ok ds ρ' → ds.length = n) :
    EvD K M W X .c false (.Call (.Name x p) (.Name y py :: es) [] pos) (tCallS (spR K n sem) (WE W) (tCons (tVar i) t)) (fRow i sem fa) := by
  refine ⟨pe_callS F hr hg hm hk hb (passAt tk) (pa_cons (pe_var hN hv hd hcd) ha.pe he) hdb he hpl, fun g σ H ρ Q R h => ?_⟩
  unfold fRow at h
  cases e : ρ[i]? with
  | none => rw [e] at h; exact h.elim
  | some o =>
    cases o with
    | none => rw [e] at h; exact h.elim
    | some d0 =>
      simp only [e] at h
      obtain ⟨a, _, _, _, h1, _⟩ := R.own i d0 hi e
      refine ⟨.ref a, h1, ?_⟩
      refine ha.so.bind R h fun ds ρ1 vs H1 eq R1 w1 dv1 h2 => ?_
      cases e1 : ρ1[i]? with
      | none => simp only [e1] at h2; exact h2.elim
      | some o1 =>
        cases o1 with
        | none => simp only [e1] at h2; exact h2.elim
        | some d1 =>
          obtain ⟨a1, ws, row, rfl, h3, h4, h5, h6⟩ := R1.own i d1 hi e1
          rw [h1] at h3
          cases h3
          simp only [e1] at h2
          have hown : Own M σ ρ1 a := ⟨i, hi, ⟨_, e1⟩, h1⟩
          refine ⟨Avs M g σ ρ1, a, vs, ws, ds, row, rfl, fun b q => R1.avs b q, .inr hown, h4, h5, hlen ρ ds ρ1 eq, dv1, ?_⟩
          cases hs : sem row ds with
          | bad => simp only [hs] at h2; exact h2.elim
          | ok d row' =>
            simp only [hs] at h2
            refine fun v H' ws' kp ha' hrow dq => ?_
            have ow : Own M σ (ρ1.set i (some (.lst row'))) = Own M σ ρ1 := own_set e1
            have av : Avs M g σ (ρ1.set i (some (.lst row'))) = Avs M g σ ρ1 := Avs.eq ow
            have hkA : ∀ b, b = a → Avs M g σ ρ1 b := fun b q => by rw [q]; exact .inr hown
            have hlt : i < ρ1.length := (List.getElem?_eq_some_iff.mp e1).1
            have R2 : Rep K M g σ H' (ρ1.set i (some (.lst row'))) := {
              len := by rw [List.length_set]; exact R1.len
              imm := fun j d hj hd => by
                have hne : i ≠ j := fun q => hj (q ▸ hi)
                rw [List.getElem?_set_ne hne] at hd
                obtain ⟨v, k1, k2⟩ := R1.imm j d hj hd
                exact ⟨v, k1, by rw [av]; exact Dq.kp kp hkA (fun _ _ z => z) d k2⟩
              own := fun j d hj hd => by
                by_cases hij : i = j
                · subst hij
                  rw [List.getElem?_set_self hlt] at hd
                  cases hd
                  exact ⟨a, ws', row', rfl, h1, ha', by rw [av]; exact hrow, h6⟩
                · rw [List.getElem?_set_ne hij] at hd
                  obtain ⟨b, us, es', k0, k1, k2, k3, k4⟩ := R1.own j d hj hd
                  have hba : b ≠ a := fun q => hij (R1.dis i j a hi hj ⟨⟨_, e1⟩, h1⟩ ⟨⟨_, hd⟩, q ▸ k1⟩)
                  exact ⟨b, us, es', k0, k1, kp b _ k2 (.inl hba), by rw [av]; exact DqA.kp kp hkA (fun _ _ z => z) _ k3, k4⟩
              dis := fun j j' b hj hj' o1 o2 => by
                have back : ∀ {j}, OwnAt σ (ρ1.set i (some (.lst row'))) j b → OwnAt σ ρ1 j b := fun {j} ⟨⟨d, hd⟩, hs⟩ => by
                  by_cases hij : i = j
                  · subst hij
                    exact ⟨⟨_, e1⟩, hs⟩
                  · rw [List.getElem?_set_ne hij] at hd
                    exact ⟨⟨d, hd⟩, hs⟩
                exact R1.dis j j' b hj hj' (back o1) (back o2)
              ex := fun b o hb hn => by
                have h7 := R1.ex b o hb hn
                by_cases hba : b = a
                · subst hba
                  rw [h4] at h7
                  cases h7
                  rcases h6 with h6 | ⟨h6, _⟩
                  · rw [hb] at h6; cases h6
                  · rcases hn with hn | hn
                    · exact (hn h6).elim
                    · exact (hn _ rfl).elim
                · exact kp b o h7 (.inl hba)
              dom := fun b hb => by
                have h7 := R1.dom b hb
                by_cases hba : b = a
                · rw [hba, ha']
                  exact fun z => by cases z
                · cases q : H1 b with
                  | none => exact (h7 q).elim
                  | some o =>
                    rw [kp b o q (.inl hba)]
                    exact fun z => by cases z
              row := R1.row }
            refine PostG.fin h2 R2 ⟨ow.trans w1.ow, w1.kp.trans (kp.mono fun b q => by rw [q, ← w1.ow]; exact hown), fun z => by cases z⟩ ?_
            show Dq K H' (Avs M g σ (ρ1.set i (some (.lst row')))) v d
            rw [av]
            exact dq

/-! ### new lists -/
def PostL (K : PySem.W.Frag) (M : List Nat) (W : WX) (pu : Bool) (g : Gh) (σ : L2.St) (H : Hp) (ρ : Rho) (o : Out (List D)) (Q : VK) : Prop := match o with
  | .ok ds ρ' => ∀ p H1 vs, Rep K M g σ H1 ρ' → Gone M σ pu H ρ H1 ρ' → H1 p = none → DqA K H1 (Avs M g σ ρ') vs ds → Q (.ref p) (upd H1 p (.lst vs))
  | .exc x ρ' => PostX K M W g σ x ρ'
  | .bad => False
structure EvL (K : PySem.W.Frag) (M : List Nat) (W : WX) (X : Cx) (pu : Bool) (e : Expr) (t : TE) (f : FA) : Prop where
  pe : PE X e t
  so : ∀ g σ H ρ Q, Rep K M g σ H ρ → PostL K M W pu g σ H ρ (f ρ) Q → t σ H Q
def fOfL (f : FA) : FE := fun ρ => (f ρ).bind fun ds ρ1 => .ok (.lst ds) ρ1
def fLstL (f : FA) : FA := fun ρ => (f ρ).bind fun ds ρ1 => if ds.length ≤ lim then .ok ds ρ1 else .bad
def fRep (f : FA) (h : FE) : FA := fun ρ => (f ρ).bind fun ds ρ1 => if ds.length ≤ lim then (h ρ1).bind fun d ρ2 => match d with
  | .int n => if n.natAbs ≤ lim ∧ ds.length * n.toNat ≤ lim then .ok (List.replicate n.toNat ds).flatten ρ2 else .bad
  | _ => .bad else .bad
def fListOf (f : FE) : FA := fun ρ => (f ρ).bind fun d ρ1 => match d with
  | .lst ds => .ok ds ρ1
  | .tup ds => .ok ds ρ1
  | _ => .bad
theorem ev_ofL {e : Expr} {t : TE} {f : FA} (h : EvL K M W X pu e t f) : EvD K M W X .c pu e t (fOfL f) := by
  refine ⟨h.pe, fun g σ H ρ Q R q => h.so g σ H ρ Q R ?_⟩
  unfold fOfL at q
  cases e : f ρ with
  | bad => rw [e] at q; exact q
  | exc x ρ' => rw [e] at q; exact q
  | ok ds ρ' =>
    rw [e] at q
    exact fun p H1 vs R1 w np dv => PostG.fin q (R1.kpH (Ex.new np)) (w.ex (Ex.new np)) (dq_lst dv np fun z => R1.avs p z np)
theorem bindL {α β : Type} {P : Gh → L2.St → Hp → Rho → α → β → Prop} {t : L2.St → Hp → (α → Hp → Prop) → Prop} {f : Rho → Out β} {k : β → Rho → Out (List D)} {g : Gh} {σ : L2.St} {H H0 : Hp} {ρ ρ0 : Rho} (s : SoundG K M W P pu t f) {Q : VK} {q : α → Hp → Prop} (R : Rep K M g σ H ρ)
    (h : PostL K M W pu2 g σ H0 ρ0 ((f ρ).bind k) Q) (hk : ∀ d ρ' v H', f ρ = .ok d ρ' → Rep K M g σ H' ρ' → Gone M σ pu H ρ H' ρ' → P g σ H' ρ' v d → PostL K M W pu2 g σ H0 ρ0 (k d ρ') Q → q v H') : t σ H q := by
  refine s.use R (fun e => ?_) (fun x ρ' e => ?_) (fun d ρ' v H' e R' ow kp p dv => hk d ρ' v H' e R' ⟨ow, kp, p⟩ dv ?_)
  · rw [e] at h
    exact h
  · rw [e] at h
    exact h
  · rw [e] at h
    exact h
theorem el_lst {es : List Expr} {t : TA} {f : FA} {pos : Pos} (h : EvA K M W X .c pu es t f) : EvL K M W X pu (.List es pos) (tLst t) (fLstL f) := by
  refine ⟨pe_lst h.pe, fun g σ H ρ Q R q => ?_⟩
  refine bindL h.so R q fun ds ρ1 vs H1 _ R1 w1 dv1 h1 => ?_
  have dv1 : DqA K H1 (Avs M g σ ρ1) vs ds := dv1
  by_cases hl : ds.length ≤ lim
  · rw [if_pos hl] at h1
    exact ⟨lim_le (by rw [dv1.length]; exact hl), fun p np => h1 p H1 vs R1 w1 np dv1⟩
  · rw [if_neg hl] at h1
    exact h1.elim
theorem el_rep {es : List Expr} {t : TA} {f : FA} {b : Expr} {tb : TE} {fb : FE} {pos pos' : Pos} (h : EvA K M W X .c pu1 es t f) (hb : EvD K M W X l2 pu2 b tb fb) : EvL K M W X (pu1 && pu2) (.BinOp (.List es pos') .Mult b pos) (tOp rRep (tLst t) tb) (fRep f fb) := by
  refine ⟨pe_op op_rep (pe_lst h.pe) hb.pe, fun g σ H ρ Q R q => ?_⟩
  refine bindL h.so R q fun ds ρ1 vs H1 _ R1 w1 dv1 h1 => ?_
  have dv1 : DqA K H1 (Avs M g σ ρ1) vs ds := dv1
  by_cases hl : ds.length ≤ lim
  · rw [if_pos hl] at h1
    refine ⟨lim_le (by rw [dv1.length]; exact hl), fun p np => ?_⟩
    have ex := Ex.new (o := .lst vs) np
    refine bindL hb.so (R1.kpH ex) h1 fun d ρ2 v H2 _ R2 w2 dv2 h2 => ?_
    have du := (show Dv K M g σ H2 ρ2 l2 v d from dv2).u
    cases du with
    | int n =>
      by_cases hn : n.natAbs ≤ lim ∧ ds.length * n.toNat ≤ lim
      · simp only [if_pos hn] at h2
        have hown : ¬ Own M σ ρ1 p := fun z => R1.avs p (.inr z) np
        have hp2 : H2 p = some (.lst vs) := w2.kp p _ upd_same (.inl hown)
        have dv2' : DqA K H2 (Avs M g σ ρ2) vs ds := by
          rw [Avs.eq w2.ow]
          exact DqA.kp w2.kp (fun a z => .inr z) (fun _ _ z => z) _ (dv1.ex ex)
        have hl6 : (lim : Int) = 1000000 := rfl
        have hl7 := hn.1
        have hl8 : n.natAbs ≤ 1000000 := hl7
        refine ⟨p, n, vs, rfl, rfl, hp2, by omega, by omega, lim_le (by rw [dv1.length]; exact hn.2), fun l nl => ?_⟩
        exact h2 l H2 _ R2 ((w1.ex ex).trans w2) nl (dv2'.flatten_replicate _)
      · simp only [if_neg hn] at h2
        exact h2.elim
    | _ => exact h2.elim
  · rw [if_neg hl] at h1
    exact h1.elim
theorem dv_items {g : Gh} {σ : L2.St} {H : Hp} {ρ : Rho} {v : V} {ds : List D} {d : D} (h : Dv K M g σ H ρ lv v d) (hl : lv ≠ .u) (hd : d = .lst ds ∨ d = .tup ds) : ∃ p vs, v = .ref p ∧ (SqL K H p vs ∨ SqT K H p vs) ∧ DqA K H (Avs M g σ ρ) vs ds := by
  have fromC : Dq K H (Avs M g σ ρ) v d → ∃ p vs, v = .ref p ∧ (SqL K H p vs ∨ SqT K H p vs) ∧ DqA K H (Avs M g σ ρ) vs ds := fun q => by
    rcases hd with rfl | rfl
    · cases q with
      | lst s a => exact ⟨_, _, rfl, .inl s.seq, a⟩
    · cases q with
      | tup s a => exact ⟨_, _, rfl, .inr s, a⟩
  cases lv with
  | c => exact fromC h
  | u => exact (hl rfl).elim
  | o =>
    rcases h with h | ⟨a, vs, es, rfl, rfl, h3, h4, h5⟩
    · exact fromC h
    · rcases hd with hd | hd
      · cases hd
        exact ⟨_, _, rfl, .inl (.inl (.inl h4)), h5⟩
      · cases hd
def rListB (K : PySem.W.Frag) : List V → Hp → VK → Prop := fun xs H Q => ∃ p ys, xs = [.ref p] ∧ (SqL K H p ys ∨ SqT K H p ys) ∧ ∀ l, H l = none → Q (.ref l) (upd H l (.lst ys))
theorem el_list {x : Str} {e : Expr} {t : TE} {f : FE} {p pos : Pos} (hK : X.K = K) (hx : x = "list") (hg : Gl X x) (hm : X.mg x = none) (ha : EvD K M W X l1 pu e t f) (hl : l1 ≠ .u)
    (he : starEach [e] X.env = (false, eval e X.env) :: starEach [] X.env := by rfl) (hpl : (backTo pos (starEach [] X.env)).any (·.1) = false := by rfl) : EvL K M W X pu (.Call (.Name x p) [e] [] pos) (tCB (rListB K) (tCons t tNil)) (fListOf f) := by
  subst hK
  subst hx
  refine ⟨pe_callTy call_list_of hg hm (by decide +kernel) (pa_cons ha.pe pa_nil he) (by decide) (by decide) he hpl, fun g σ H ρ Q R q => ?_⟩
  refine bindL ha.so R q fun d ρ1 v H1 _ R1 w1 dv1 h1 => ?_
  have dv1 : Dv X.K M g σ H1 ρ1 l1 v d := dv1
  cases d with
  | lst ds =>
    obtain ⟨p, vs, rfl, h3, h4⟩ := dv_items dv1 hl (.inl rfl)
    exact ⟨p, vs, rfl, h3, fun l nl => h1 l H1 vs R1 w1 nl h4⟩
  | tup ds =>
    obtain ⟨p, vs, rfl, h3, h4⟩ := dv_items dv1 hl (.inr rfl)
    exact ⟨p, vs, rfl, h3, fun l nl => h1 l H1 vs R1 w1 nl h4⟩
  | _ => exact h1.elim
end
end DL

namespace DL
open PySem PySem.Spec PyProof.Rows L2

/-! ### targets -/
abbrev FG := D → Rho → Option Rho
abbrev FGs := List D → Rho → Option Rho
def gfN (i : Nat) : FG := fun d ρ => some (ρ.set i (some d))
def gfT (n : Nat) (f : FGs) : FG := fun d ρ => match d with
  | .tup ds => if ds.length = n then f ds ρ else none
  | _ => none
def gfNil : FGs := fun ds ρ => match ds with
  | [] => some ρ
  | _ => none
def gfC (f : FG) (h : FGs) : FGs := fun ds ρ => match ds with
  | d :: ds => (f d ρ).bind fun ρ1 => h ds ρ1
  | [] => none
def wipeR (ρ : Rho) : List Nat → Rho
  | [] => ρ
  | v :: vs => (wipeR ρ vs).set v none
theorem wipe_get (σ : L2.St) (j : Nat) : ∀ vs : List Nat, (wipe σ vs)[j]? = if j ∈ vs then (σ[j]?).map fun _ => none else σ[j]?
  | [] => by simp [wipe]
  | v :: vs => by
    unfold wipe
    by_cases h : v = j
    · subst h
      rw [List.getElem?_set, if_pos rfl, if_pos List.mem_cons_self, wipe_length]
      by_cases hl : v < σ.length
      · rw [if_pos hl, List.getElem?_eq_getElem hl]
        rfl
      · rw [if_neg hl, List.getElem?_eq_none (by omega)]
        rfl
    · rw [List.getElem?_set_ne h, wipe_get σ j vs]
      by_cases hj : j ∈ vs
      · rw [if_pos hj, if_pos (List.mem_cons_of_mem _ hj)]
      · rw [if_neg hj, if_neg (fun q => (List.mem_cons.mp q).elim (fun z => h z.symm) hj)]
theorem wipeR_length (ρ : Rho) : ∀ vs : List Nat, (wipeR ρ vs).length = ρ.length
  | [] => rfl
  | v :: vs => by unfold wipeR; rw [List.length_set, wipeR_length ρ vs]
theorem wipeR_get (σ : Rho) (j : Nat) : ∀ vs : List Nat, (wipeR σ vs)[j]? = if j ∈ vs then (σ[j]?).map fun _ => none else σ[j]?
  | [] => by simp [wipeR]
  | v :: vs => by
    unfold wipeR
    by_cases h : v = j
    · subst h
      rw [List.getElem?_set, if_pos rfl, if_pos List.mem_cons_self, wipeR_length]
      by_cases hl : v < σ.length
      · rw [if_pos hl, List.getElem?_eq_getElem hl]
        rfl
      · rw [if_neg hl, List.getElem?_eq_none (by omega)]
        rfl
    · rw [List.getElem?_set_ne h, wipeR_get σ j vs]
      by_cases hj : j ∈ vs
      · rw [if_pos hj, if_pos (List.mem_cons_of_mem _ hj)]
      · rw [if_neg hj, if_neg (fun q => (List.mem_cons.mp q).elim (fun z => h z.symm) hj)]
theorem wipe_set {σ : L2.St} {i : Nat} {x : Option V} {vs : List Nat} (h : i ∈ vs) : wipe (σ.set i x) vs = wipe σ vs := by
  refine List.ext_getElem? fun j => ?_
  rw [wipe_get, wipe_get]
  by_cases hj : j ∈ vs
  · rw [if_pos hj, if_pos hj, List.getElem?_set]
    by_cases e : i = j
    · subst e
      rw [if_pos rfl]
      by_cases hl : i < σ.length
      · rw [if_pos hl, List.getElem?_eq_getElem hl]
        rfl
      · rw [if_neg hl, List.getElem?_eq_none (by omega)]
    · rw [if_neg e]
  · rw [if_neg hj, if_neg hj, List.getElem?_set_ne (show i ≠ j from fun e => hj (e ▸ h))]
theorem wipe_wipe {σ : L2.St} {vs : List Nat} : wipe (wipe σ vs) vs = wipe σ vs := by
  refine List.ext_getElem? fun j => ?_
  rw [wipe_get, wipe_get]
  by_cases hj : j ∈ vs
  · rw [if_pos hj, if_pos hj, Option.map_map]
    rfl
  · rw [if_neg hj, if_neg hj]

section
variable {K : PySem.W.Frag} {M : List Nat} {g : Gh} {σ : L2.St} {H H1 : Hp} {ρ : Rho}
theorem own_imm {i : Nat} {v : Option V} {d : Option D} (hi : i ∉ M) : Own M (σ.set i v) (ρ.set i d) = Own M σ ρ := by
  funext a
  refine propext ⟨fun ⟨j, hj, ⟨e, he⟩, hs⟩ => ?_, fun ⟨j, hj, ⟨e, he⟩, hs⟩ => ?_⟩
  · have hne : i ≠ j := fun q => hi (q ▸ hj)
    rw [List.getElem?_set_ne hne] at he hs
    exact ⟨j, hj, ⟨e, he⟩, hs⟩
  · have hne : i ≠ j := fun q => hi (q ▸ hj)
    exact ⟨j, hj, ⟨e, by rw [List.getElem?_set_ne hne]; exact he⟩, by rw [List.getElem?_set_ne hne]; exact hs⟩
/-- slot i gets a value -/
theorem Rep.set (R : Rep K M g σ H ρ) {i : Nat} {v : V} {d : D} (hi : i ∉ M) (h : Dq K H (Avs M g σ ρ) v d) : Rep K M g (σ.set i (some v)) H (ρ.set i (some d)) where
  len := by rw [List.length_set, List.length_set]; exact R.len
  imm := fun j e hj he => by
    rw [Avs.eq' (own_imm hi)]
    by_cases hij : i = j
    · subst hij
      have hl : i < ρ.length := by
        by_cases hl : i < ρ.length
        · exact hl
        · rw [List.getElem?_eq_none (by rw [List.length_set]; omega)] at he
          cases he
      rw [List.getElem?_set_self hl] at he
      cases he
      exact ⟨v, List.getElem?_set_self (by rw [R.len]; exact hl), h⟩
    · rw [List.getElem?_set_ne hij] at he
      obtain ⟨w, h1, h2⟩ := R.imm j e hj he
      exact ⟨w, by rw [List.getElem?_set_ne hij]; exact h1, h2⟩
  own := fun j e hj he => by
    have hij : i ≠ j := fun q => hi (q ▸ hj)
    rw [Avs.eq' (own_imm hi)]
    rw [List.getElem?_set_ne hij] at he
    obtain ⟨a, vs, ds, h0, h1, h2⟩ := R.own j e hj he
    exact ⟨a, vs, ds, h0, by rw [List.getElem?_set_ne hij]; exact h1, h2⟩
  dis := fun j k a hj hk o1 o2 => by
    have back : ∀ {j}, j ∈ M → OwnAt (σ.set i (some v)) (ρ.set i (some d)) j a → OwnAt σ ρ j a := fun {j} hj ⟨⟨e, he⟩, hs⟩ => by
      have hij : i ≠ j := fun q => hi (q ▸ hj)
      rw [List.getElem?_set_ne hij] at he hs
      exact ⟨⟨e, he⟩, hs⟩
    exact R.dis j k a hj hk (back hj o1) (back hk o2)
  ex := R.ex
  dom := R.dom
  row := fun a h => by
    obtain ⟨h1, h2⟩ := R.row a h
    exact ⟨h1, by rw [List.getElem?_set_ne (show i ≠ 0 from fun e => hi (e ▸ h1))]; exact h2⟩
theorem own_wipe {vs : List Nat} (hv : ∀ i ∈ vs, i ∉ M) : Own M (wipe σ vs) (wipeR ρ vs) = Own M σ ρ := by
  induction vs with
  | nil => rfl
  | cons v vs ih =>
    show Own M ((wipe σ vs).set v none) ((wipeR ρ vs).set v none) = _
    rw [own_imm (hv v List.mem_cons_self)]
    exact ih fun i hi => hv i (List.mem_cons_of_mem _ hi)
/-- the slots vs are forgotten -/
theorem Rep.wipe (R : Rep K M g σ H ρ) {vs : List Nat} (hv : ∀ i ∈ vs, i ∉ M) : Rep K M g (L2.wipe σ vs) H (wipeR ρ vs) where
  len := by rw [wipe_length, wipeR_length]; exact R.len
  imm := fun j e hj he => by
    rw [Avs.eq' (own_wipe hv)]
    rw [wipeR_get] at he
    by_cases hm : j ∈ vs
    · rw [if_pos hm] at he
      cases q : ρ[j]? with
      | none => rw [q] at he; cases he
      | some o => rw [q] at he; cases he
    · rw [if_neg hm] at he
      obtain ⟨w, h1, h2⟩ := R.imm j e hj he
      exact ⟨w, by rw [wipe_get, if_neg hm]; exact h1, h2⟩
  own := fun j e hj he => by
    have hm : j ∉ vs := fun q => hv j q hj
    rw [Avs.eq' (own_wipe hv)]
    rw [wipeR_get, if_neg hm] at he
    obtain ⟨a, vs', ds, h0, h1, h2⟩ := R.own j e hj he
    exact ⟨a, vs', ds, h0, by rw [wipe_get, if_neg hm]; exact h1, h2⟩
  dis := fun j k a hj hk o1 o2 => by
    have back : ∀ {j}, j ∈ M → OwnAt (L2.wipe σ vs) (wipeR ρ vs) j a → OwnAt σ ρ j a := fun {j} hj ⟨⟨e, he⟩, hs⟩ => by
      have hm : j ∉ vs := fun q => hv j q hj
      rw [wipeR_get, if_neg hm] at he
      rw [wipe_get, if_neg hm] at hs
      exact ⟨⟨e, he⟩, hs⟩
    exact R.dis j k a hj hk (back hj o1) (back hk o2)
  ex := R.ex
  dom := R.dom
  row := fun a h => by
    obtain ⟨h1, h2⟩ := R.row a h
    exact ⟨h1, by rw [wipe_get, if_neg (fun q => hv 0 q h1)]; exact h2⟩
end

def PostT (K : PySem.W.Frag) (M : List Nat) (ts : List Nat) (g : Gh) (σ : L2.St) (H : Hp) (ρ : Rho) (o : Option Rho) (Q : L2.St → Hp → Prop) : Prop := match o with
  | some ρ' => ∀ σ', Rep K M g σ' H ρ' → Own M σ' ρ' = Own M σ ρ → (∀ vs, (∀ i ∈ ts, i ∈ vs) → wipe σ' vs = wipe σ vs) → Q σ' H
  | none => False
structure EvG (K : PySem.W.Frag) (M : List Nat) (X : Cx) (ts : List Nat) (tg : Expr) (t : TG) (f : FG) : Prop where
  pg : PG X tg t
  so : ∀ g σ H ρ v d Q, Rep K M g σ H ρ → Dq K H (Avs M g σ ρ) v d → PostT K M ts g σ H ρ (f d ρ) Q → t v σ H Q
structure EvGs (K : PySem.W.Frag) (M : List Nat) (X : Cx) (ts : List Nat) (tg : List Expr) (t : TGs) (f : FGs) : Prop where
  pg : PGs X tg t
  so : ∀ g σ H ρ v d Q, Rep K M g σ H ρ → DqA K H (Avs M g σ ρ) v d → PostT K M ts g σ H ρ (f d ρ) Q → t v σ H Q
section
variable {K : PySem.W.Frag} {M : List Nat} {X : Cx}
theorem eg_name (i : Nat) {x : Str} {pos : Pos} (hN : X.N.Nodup) (hi : X.N[i]? = some x) (hx : Loc X.env.scope x) (hm : i ∉ M) (hf : X.fn x = true ∨ X.env.scope.names.lookup x = some .local := by first | exact .inl rfl | exact .inr rfl | assumption) : EvG K M X [i] (.Name x pos) (gName i) (gfN i) :=
  ⟨pg_name hN hi hx hf, fun g σ H ρ v d Q R dv h => h _ (R.set hm dv) (own_imm hm) fun vs hv => wipe_set (hv i List.mem_cons_self)⟩
theorem egs_nil : EvGs K M X [] [] gNil gfNil := by
  refine ⟨pgs_nil, fun g σ H ρ v d Q R dv h => ?_⟩
  cases dv with
  | nil => exact ⟨rfl, h σ R rfl fun _ _ => rfl⟩
  | cons _ _ => exact h.elim
theorem egs_cons {e : Expr} {es : List Expr} {t : TG} {u : TGs} {f : FG} {h : FGs} {ts us : List Nat} (h1 : EvG K M X ts e t f) (h2 : EvGs K M X us es u h) (hs : (assignEach (e :: es) X.env).map (·.2) = assign e X.env :: (assignEach es X.env).map (·.2) := by rfl) :
    EvGs K M X (ts ++ us) (e :: es) (gCons t u) (gfC f h) := by
  refine ⟨pgs_cons h1.pg h2.pg hs, fun g σ H ρ v d Q R dv q => ?_⟩
  cases dv with
  | nil => exact q.elim
  | @cons v vs d ds d1 d2 =>
    refine ⟨v, vs, rfl, h1.so g σ H ρ v d _ R d1 ?_⟩
    have q : PostT K M (ts ++ us) g σ H ρ ((f d ρ).bind fun ρ1 => h ds ρ1) Q := q
    cases e1 : f d ρ with
    | none => rw [e1] at q; exact q.elim
    | some ρ1 =>
      rw [e1] at q
      refine fun σ1 R1 ow1 w1 => h2.so g σ1 H ρ1 vs ds Q R1 (by rw [Avs.eq' ow1]; exact d2) ?_
      have q : PostT K M (ts ++ us) g σ H ρ (h ds ρ1) Q := q
      cases e2 : h ds ρ1 with
      | none => rw [e2] at q; exact q.elim
      | some ρ2 =>
        rw [e2] at q
        exact fun σ2 R2 ow2 w2 => q σ2 R2 (ow2.trans ow1) fun vs hv => (w2 vs fun i hi => hv i (List.mem_append_right _ hi)).trans (w1 vs fun i hi => hv i (List.mem_append_left _ hi))
theorem eg_tup {es : List Expr} {k : Nat} {t : TGs} {f : FGs} {n : Nat} {ts : List Nat} {pos : Pos} (hK : X.K = K) (hc : X.calm = true) (h : EvGs K M X ts es t f) (hn : (assignEach es X.env).length = n := by rfl) (hst : (assignEach es X.env).findIdx? (·.1) = none := by rfl) :
    EvG K M X ts (.Tuple es k pos) (gTup K n t) (gfT n f) := by
  subst hK
  refine ⟨pg_tup hc h.pg hn hst, fun g σ H ρ v d Q R dv q => ?_⟩
  cases dv with
  | tup s a =>
    unfold gfT at q
    simp only at q
    split at q
    · rename_i hl
      exact ⟨_, _, rfl, s, a.length.trans hl, h.so g σ H ρ _ _ Q R a q⟩
    · exact q.elim
  | _ => exact q.elim
end
end DL

namespace DL
open PySem PySem.Spec PyProof.Rows L2

/-! ### what is walked -/
structure IterP (K : PySem.W.Frag) (ok : Addr → Prop) (J : It) (ds : List D) (G : (Addr → Prop) → Hp → Prop) : Prop where
  mono : ∀ B B' C H H', G B H → Kp C H H' → (∀ c, C c → B c ∧ ok c) → (∀ a, H a ≠ none → B' a → B a) → G B' H'
  fresh : ∀ B H d, G B H → H d = none → ok d
  walk : Walk J ds.length (fun H => ∃ B, G B H) (fun i H x H' => Ex H H' ∧ ∃ d, ds[i]? = some d ∧ ∀ B, G B H → Dq K H' B x d)
def PostI (K : PySem.W.Frag) (M : List Nat) (W : WX) (kp pu : Bool) (g : Gh) (σ : L2.St) (H : Hp) (ρ : Rho) (o : Out (List D)) (Q : It → Hp → Prop) : Prop := match o with
  | .ok ds ρ' => ∀ J G ok H', Rep K M g σ H' ρ' → Gone M σ pu H ρ H' ρ' → IterP K ok J ds G → (kp = true → ∀ c, ok c) → G (Avs M g σ ρ') H' → Q J H'
  | .exc x ρ' => PostX K M W g σ x ρ'
  | .bad => False
structure EvI (K : PySem.W.Frag) (M : List Nat) (W : WX) (X : Cx) (kp pu : Bool) (tg iter : Expr) (wi : TI) (f : FA) : Prop where
  pi : PI X tg iter wi
  so : ∀ g σ H ρ Q, Rep K M g σ H ρ → PostI K M W kp pu g σ H ρ (f ρ) Q → wi σ H Q
def orI (w w' : TI) : TI := fun σ H R => w σ H R ∨ w' σ H R
theorem pi_or {X : Cx} {tg iter : Expr} {w w' : TI} (h : PI X tg iter w) (h' : PI X tg iter w') : PI X tg iter (orI w w') := ⟨fun pins s σ H R I q => q.elim (h.run pins s σ H R I) (h'.run pins s σ H R I)⟩
/-- the items of what is walked -/
def itemsOf : D → Option (List D)
  | .lst ds => some ds
  | .tup ds => some ds
  | .str s => some (s.map fun c => .str [c])
  | _ => none
def fIt (f : FE) : FA := fun ρ => (f ρ).bind fun d ρ1 => ofO (itemsOf d) ρ1
def fItL (f : FE) : FA := fun ρ => (f ρ).bind fun d ρ1 => match d with
  | .lst ds => .ok ds ρ1
  | _ => .bad
def numD (lo : Int) : Nat → List D
  | 0 => []
  | n + 1 => .int lo :: numD (lo + 1) n
def enD (lo : Nat) : List D → List D
  | [] => []
  | d :: ds => .tup [.int lo, d] :: enD (lo + 1) ds
def zipD : List D → List D → List D
  | d :: ds, e :: es => .tup [d, e] :: zipD ds es
  | _, _ => []
def fRng1 (f : FE) : FA := fun ρ => (f ρ).bind fun d ρ1 => match d with
  | .int j => if j.natAbs ≤ lim then .ok (numD 0 j.toNat) ρ1 else .bad
  | _ => .bad
def fRng2 (f h : FE) : FA := fun ρ => (f ρ).bind fun d ρ1 => (h ρ1).bind fun e ρ2 => match d, e with
  | .int i, .int j => if i.natAbs ≤ lim ∧ j.natAbs ≤ lim then .ok (numD i (j - i).toNat) ρ2 else .bad
  | _, _ => .bad
def itemsEn : D → Option (List D)
  | .lst ds => some ds
  | .str s => some (s.map fun c => .str [c])
  | _ => none
def fEnum (f : FE) : FA := fun ρ => (f ρ).bind fun d ρ1 => ofO ((itemsEn d).map (enD 0)) ρ1
def fZip (f h : FE) : FA := fun ρ => (f ρ).bind fun d ρ1 => (h ρ1).bind fun e ρ2 => match itemsOf d, itemsOf e with
  | some ds, some es => .ok (zipD ds es) ρ2
  | _, _ => .bad
theorem numD_len (lo : Int) : ∀ n, (numD lo n).length = n
  | 0 => rfl
  | n + 1 => by show (numD (lo + 1) n).length + 1 = n + 1; rw [numD_len]
theorem numD_get : ∀ (lo : Int) (n i : Nat), i < n → (numD lo n)[i]? = some (.int (lo + i))
  | lo, n + 1, 0, _ => by simp [numD]
  | lo, n + 1, i + 1, h => by
    show (numD (lo + 1) n)[i]? = _
    rw [numD_get (lo + 1) n i (by omega)]
    congr 2
    omega
theorem enD_len : ∀ (lo : Nat) (ds : List D), (enD lo ds).length = ds.length
  | _, [] => rfl
  | lo, d :: ds => by show (enD (lo + 1) ds).length + 1 = _; rw [enD_len]; rfl
theorem enD_get : ∀ (lo : Nat) (ds : List D) (i : Nat) (d : D), ds[i]? = some d → (enD lo ds)[i]? = some (.tup [.int ((lo + i : Nat) : Int), d])
  | lo, [], i, d, h => by simp at h
  | lo, e :: ds, 0, d, h => by
    simp at h
    subst h
    simp [enD]
  | lo, e :: ds, i + 1, d, h => by
    show (enD (lo + 1) ds)[i]? = _
    rw [enD_get (lo + 1) ds i d (by simpa using h)]
    congr 4
    omega
theorem zipD_len : ∀ ds es : List D, (zipD ds es).length = min ds.length es.length
  | [], _ => by simp [zipD]
  | _ :: _, [] => by simp [zipD]
  | d :: ds, e :: es => by
    show (zipD ds es).length + 1 = _
    rw [zipD_len]
    simp only [List.length_cons]
    omega
theorem zipD_get : ∀ (ds es : List D) (i : Nat) (d e : D), ds[i]? = some d → es[i]? = some e → (zipD ds es)[i]? = some (.tup [d, e])
  | [], _, _, _, _, h, _ => by simp at h
  | _ :: _, [], _, _, _, _, h => by simp at h
  | d :: ds, e :: es, 0, _, _, h1, h2 => by
    simp at h1 h2
    subst h1 h2
    rfl
  | d :: ds, e :: es, i + 1, _, _, h1, h2 => zipD_get ds es i _ _ (by simpa using h1) (by simpa using h2)

section
variable {K : PySem.W.Frag} {H : Hp} {B : Addr → Prop}
theorem dq_lst_get {a : Addr} {ds : List D} (h : Dq K H B (.ref a) (.lst ds)) : ∃ xs, SqL K H a xs ∧ DqA K H B xs ds := by
  cases h with
  | lst s a => exact ⟨_, s.seq, a⟩
theorem dq_tup_get {a : Addr} {ds : List D} (h : Dq K H B (.ref a) (.tup ds)) : ∃ xs, SqT K H a xs ∧ DqA K H B xs ds := by
  cases h with
  | tup s a => exact ⟨_, s, a⟩
theorem iter_lst {a : Addr} {ds : List D} : IterP K (fun _ => True) (Itl K a) ds (fun B H => Dq K H B (.ref a) (.lst ds)) where
  mono := fun B B' C H H' h k hc hb => Dq.kp k (fun c q => (hc c q).1) hb _ h
  fresh := fun _ _ _ _ _ => trivial
  walk := {
    goes := fun i H hi ⟨B, h⟩ => by
      obtain ⟨xs, s, q⟩ := dq_lst_get h
      exact ⟨xs, xs[i]'(by rw [q.length]; exact hi), s, List.getElem?_eq_getElem _⟩
    stops := fun H ⟨B, h⟩ => by
      obtain ⟨xs, s, q⟩ := dq_lst_get h
      exact ⟨xs, s, by rw [q.length]; exact Nat.le_refl _⟩
    yields := fun i H x H' hi ⟨B, h⟩ ⟨e, y⟩ => by
      subst e
      refine ⟨Ex.refl _, ds[i], List.getElem?_eq_getElem hi, fun B h => ?_⟩
      obtain ⟨xs, s, q⟩ := dq_lst_get h
      obtain ⟨v, h1, h2⟩ := q.get (List.getElem?_eq_getElem hi)
      rw [y xs s] at h1
      cases h1
      exact h2 }
theorem iter_tup {a : Addr} {ds : List D} : IterP K (fun _ => True) (Itt K a) ds (fun B H => Dq K H B (.ref a) (.tup ds)) where
  mono := fun B B' C H H' h k hc hb => Dq.kp k (fun c q => (hc c q).1) hb _ h
  fresh := fun _ _ _ _ _ => trivial
  walk := {
    goes := fun i H hi ⟨B, h⟩ => by
      obtain ⟨xs, s, q⟩ := dq_tup_get h
      exact ⟨xs, xs[i]'(by rw [q.length]; exact hi), s, List.getElem?_eq_getElem _⟩
    stops := fun H ⟨B, h⟩ => by
      obtain ⟨xs, s, q⟩ := dq_tup_get h
      exact ⟨xs, s, by rw [q.length]; exact Nat.le_refl _⟩
    yields := fun i H x H' hi ⟨B, h⟩ ⟨e, y⟩ => by
      subst e
      refine ⟨Ex.refl _, ds[i], List.getElem?_eq_getElem hi, fun B h => ?_⟩
      obtain ⟨xs, s, q⟩ := dq_tup_get h
      obtain ⟨v, h1, h2⟩ := q.get (List.getElem?_eq_getElem hi)
      rw [y xs s] at h1
      cases h1
      exact h2 }
/-- a slot's own list, while nothing changes it -/
theorem iter_own {a : Addr} {ds : List D} : IterP K (fun c => c ≠ a) (Itl K a) ds (fun B H => ∃ xs, H a = some (.lst xs) ∧ DqA K H B xs ds) where
  mono := fun B B' C H H' ⟨xs, h, q⟩ k hc hb => ⟨xs, k a _ h (.inl fun z => (hc a z).2 rfl), DqA.kp k (fun c q => (hc c q).1) hb _ q⟩
  fresh := fun B H d ⟨xs, h, _⟩ hd e => by
    rw [e, h] at hd
    cases hd
  walk := {
    goes := fun i H hi ⟨B, xs, h, q⟩ => ⟨xs, xs[i]'(by rw [q.length]; exact hi), .inl (.inl h), List.getElem?_eq_getElem _⟩
    stops := fun H ⟨B, xs, h, q⟩ => ⟨xs, .inl (.inl h), by rw [q.length]; exact Nat.le_refl _⟩
    yields := fun i H x H' hi _ ⟨e, y⟩ => by
      subst e
      refine ⟨Ex.refl _, ds[i], List.getElem?_eq_getElem hi, fun B ⟨xs, h, q⟩ => ?_⟩
      obtain ⟨v, h1, h2⟩ := q.get (List.getElem?_eq_getElem hi)
      rw [y xs (.inl (.inl h))] at h1
      cases h1
      exact h2 }
theorem iter_str {s : List Nat} : IterP K (fun _ => True) (Its ⟨s.toArray⟩) (s.map fun c => .str [c]) (fun _ _ => True) where
  mono := fun _ _ _ _ _ _ _ _ _ => trivial
  fresh := fun _ _ _ _ _ => trivial
  walk := {
    goes := fun i H hi _ => by
      rw [List.length_map] at hi
      show i < s.toArray.size
      simpa using hi
    stops := fun H _ => by
      show s.toArray.size ≤ _
      simp
    yields := fun i H x H' hi _ ⟨e, c, y, z⟩ => by
      subst e
      rw [List.length_map] at hi
      have h1 : s[i]? = some c := by simpa using y
      refine ⟨Ex.refl _, .str [c], by rw [List.getElem?_map, h1]; rfl, fun B _ => ?_⟩
      rw [z]
      exact .str [c] }
theorem iter_rng {lo : Int} {n : Nat} : IterP K (fun _ => True) (Itr lo n) (numD lo n) (fun _ _ => True) where
  mono := fun _ _ _ _ _ _ _ _ _ => trivial
  fresh := fun _ _ _ _ _ => trivial
  walk := {
    goes := fun i H hi _ => by rw [numD_len] at hi; exact hi
    stops := fun H _ => by rw [numD_len]; exact Nat.le_refl n
    yields := fun i H x H' hi _ ⟨e, y⟩ => by
      subst e
      rw [numD_len] at hi
      exact ⟨Ex.refl _, _, numD_get lo n i hi, fun B _ => by rw [y]; exact .int _⟩ }
theorem pair_new {T : Addr} {x y : V} {d e : D} (hx : Dq K H B x d) (hy : Dq K H B y e) (n : H T = none) : Dq K (upd H T (.tup [x, y])) B (.ref T) (.tup [d, e]) := dq_tup (.cons hx (.cons hy .nil)) n
theorem iter_enL {a : Addr} {ds : List D} : IterP K (fun _ => True) (Ite K a) (enD 0 ds) (fun B H => Dq K H B (.ref a) (.lst ds)) where
  mono := fun B B' C H H' h k hc hb => Dq.kp k (fun c q => (hc c q).1) hb _ h
  fresh := fun _ _ _ _ _ => trivial
  walk := {
    goes := fun i H hi ⟨B, h⟩ => by
      rw [enD_len] at hi
      obtain ⟨xs, s, q⟩ := dq_lst_get h
      exact ⟨xs, xs[i]'(by rw [q.length]; exact hi), s, List.getElem?_eq_getElem _⟩
    stops := fun H ⟨B, h⟩ => by
      obtain ⟨xs, s, q⟩ := dq_lst_get h
      exact ⟨xs, s, by rw [q.length, enD_len]; exact Nat.le_refl _⟩
    yields := fun i H x H' hi ⟨B, h⟩ ⟨T, y, e, nT, e2, f⟩ => by
      subst e e2
      rw [enD_len] at hi
      refine ⟨Ex.new nT, _, enD_get 0 ds i _ (List.getElem?_eq_getElem hi), fun B h => ?_⟩
      obtain ⟨xs, s, q⟩ := dq_lst_get h
      obtain ⟨v, h1, h2⟩ := q.get (List.getElem?_eq_getElem hi)
      rw [f xs s] at h1
      cases h1
      rw [Nat.zero_add]
      exact pair_new (.int _) h2 nT }
theorem iter_zipL {a b : Addr} {ds es : List D} : IterP K (fun _ => True) (Itz K a b) (zipD ds es) (fun B H => Dq K H B (.ref a) (.lst ds) ∧ Dq K H B (.ref b) (.lst es)) where
  mono := fun B B' C H H' h k hc hb => ⟨Dq.kp k (fun c q => (hc c q).1) hb _ h.1, Dq.kp k (fun c q => (hc c q).1) hb _ h.2⟩
  fresh := fun _ _ _ _ _ => trivial
  walk := {
    goes := fun i H hi ⟨B, h1, h2⟩ => by
      rw [zipD_len] at hi
      obtain ⟨xs, s, q⟩ := dq_lst_get h1
      obtain ⟨ys, s2, q2⟩ := dq_lst_get h2
      exact ⟨xs, ys, xs[i]'(by rw [q.length]; omega), ys[i]'(by rw [q2.length]; omega), s, s2, List.getElem?_eq_getElem _, List.getElem?_eq_getElem _⟩
    stops := fun H ⟨B, h1, h2⟩ => by
      obtain ⟨xs, s, q⟩ := dq_lst_get h1
      obtain ⟨ys, s2, q2⟩ := dq_lst_get h2
      exact ⟨xs, ys, s, s2, by rw [q.length, q2.length, zipD_len]; omega⟩
    yields := fun i H x H' hi _ ⟨T, x1, x2, e, nT, e2, f1, f2⟩ => by
      subst e e2
      rw [zipD_len] at hi
      have l1 : i < ds.length := by omega
      have l2 : i < es.length := by omega
      refine ⟨Ex.new nT, _, zipD_get ds es i _ _ (List.getElem?_eq_getElem l1) (List.getElem?_eq_getElem l2), fun B ⟨h1, h2⟩ => ?_⟩
      obtain ⟨xs, s, q⟩ := dq_lst_get h1
      obtain ⟨ys, s2, q2⟩ := dq_lst_get h2
      obtain ⟨v, g1, g2⟩ := q.get (List.getElem?_eq_getElem l1)
      obtain ⟨w, k1, k2⟩ := q2.get (List.getElem?_eq_getElem l2)
      rw [f1 xs s] at g1
      rw [f2 ys s2] at k1
      cases g1
      cases k1
      exact pair_new g2 k2 nT }
theorem iter_zipT {a b : Addr} {ds es : List D} : IterP K (fun _ => True) (RZ.ItzT K a b) (zipD ds es) (fun B H => Dq K H B (.ref a) (.tup ds) ∧ Dq K H B (.ref b) (.tup es)) where
  mono := fun B B' C H H' h k hc hb => ⟨Dq.kp k (fun c q => (hc c q).1) hb _ h.1, Dq.kp k (fun c q => (hc c q).1) hb _ h.2⟩
  fresh := fun _ _ _ _ _ => trivial
  walk := {
    goes := fun i H hi ⟨B, h1, h2⟩ => by
      rw [zipD_len] at hi
      obtain ⟨xs, s, q⟩ := dq_tup_get h1
      obtain ⟨ys, s2, q2⟩ := dq_tup_get h2
      exact ⟨xs, ys, xs[i]'(by rw [q.length]; omega), ys[i]'(by rw [q2.length]; omega), s, s2, List.getElem?_eq_getElem _, List.getElem?_eq_getElem _⟩
    stops := fun H ⟨B, h1, h2⟩ => by
      obtain ⟨xs, s, q⟩ := dq_tup_get h1
      obtain ⟨ys, s2, q2⟩ := dq_tup_get h2
      exact ⟨xs, ys, s, s2, by rw [q.length, q2.length, zipD_len]; omega⟩
    yields := fun i H x H' hi _ ⟨T, x1, x2, e, nT, e2, f1, f2⟩ => by
      subst e e2
      rw [zipD_len] at hi
      have l1 : i < ds.length := by omega
      have l2 : i < es.length := by omega
      refine ⟨Ex.new nT, _, zipD_get ds es i _ _ (List.getElem?_eq_getElem l1) (List.getElem?_eq_getElem l2), fun B ⟨h1, h2⟩ => ?_⟩
      obtain ⟨xs, s, q⟩ := dq_tup_get h1
      obtain ⟨ys, s2, q2⟩ := dq_tup_get h2
      obtain ⟨v, g1, g2⟩ := q.get (List.getElem?_eq_getElem l1)
      obtain ⟨w, k1, k2⟩ := q2.get (List.getElem?_eq_getElem l2)
      rw [f1 xs s] at g1
      rw [f2 ys s2] at k1
      cases g1
      cases k1
      exact pair_new g2 k2 nT }
end

section
variable {K : PySem.W.Frag} {M : List Nat} {W : WX} {X : Cx} {pu pu1 pu2 pu3 : Bool} {lv l1 l2 : Lv}
theorem bindI {α β : Type} {P : Gh → L2.St → Hp → Rho → α → β → Prop} {kp : Bool} {t : L2.St → Hp → (α → Hp → Prop) → Prop} {f : Rho → Out β} {k : β → Rho → Out (List D)} {g : Gh} {σ : L2.St} {H H0 : Hp} {ρ ρ0 : Rho} (s : SoundG K M W P pu t f) {Q : It → Hp → Prop} {q : α → Hp → Prop} (R : Rep K M g σ H ρ)
    (h : PostI K M W kp pu2 g σ H0 ρ0 ((f ρ).bind k) Q) (hk : ∀ d ρ' v H', f ρ = .ok d ρ' → Rep K M g σ H' ρ' → Gone M σ pu H ρ H' ρ' → P g σ H' ρ' v d → PostI K M W kp pu2 g σ H0 ρ0 (k d ρ') Q → q v H') : t σ H q := by
  refine s.use R (fun e => ?_) (fun x ρ' e => ?_) (fun d ρ' v H' e R' ow kp p dv => hk d ρ' v H' e R' ⟨ow, kp, p⟩ dv ?_)
  · rw [e] at h
    exact h
  · rw [e] at h
    exact h
  · rw [e] at h
    exact h
def iSeq3 (K : PySem.W.Frag) (t : TE) : TI := orI (iList K t) (orI (iTup K t) (iStr t))
/-- for x in e: e a list, a tuple, a text -/
theorem ei_seq {tg e : Expr} {t : TE} {f : FE} (hK : X.K = K) (h : EvD K M W X .c pu e t f) : EvI K M W X true pu tg e (iSeq3 K t) (fIt f) := by
  subst hK
  refine ⟨pi_or (pi_list h.pe) (pi_or (pi_tup h.pe) (pi_str h.pe)), fun g σ H ρ Q R q => ?_⟩
  have key : ∀ {w : TI}, (∀ (q' : V → Hp → Prop), t σ H q' → (∀ v H', q' v H' → True) → True) → True := fun _ => trivial
  unfold fIt at q
  cases e1 : f ρ with
  | bad => rw [e1] at q; exact q.elim
  | exc x ρ' =>
    refine .inl (bindI (kp := true) (pu2 := pu) h.so R (k := fun d ρ1 => ofO (itemsOf d) ρ1) q fun d ρ1 v H1 e2 _ _ _ _ => ?_)
    rw [e1] at e2
    cases e2
  | ok d ρ0 =>
    cases d with
    | lst ds =>
      refine .inl (bindI (kp := true) (pu2 := pu) h.so R (k := fun d ρ1 => ofO (itemsOf d) ρ1) q fun d ρ1 v H1 e2 R1 w1 dv h1 => ?_)
      rw [e1] at e2
      cases e2
      have dq : Dq X.K H1 (Avs M g σ ρ0) v (.lst ds) := dv
      cases dq with
      | lst s a => exact ⟨_, rfl, ⟨_, s.seq⟩, h1 _ _ _ H1 R1 w1 iter_lst (fun _ _ => trivial) (.lst s a)⟩
    | tup ds =>
      refine .inr (.inl (bindI (kp := true) (pu2 := pu) h.so R (k := fun d ρ1 => ofO (itemsOf d) ρ1) q fun d ρ1 v H1 e2 R1 w1 dv h1 => ?_))
      rw [e1] at e2
      cases e2
      have dq : Dq X.K H1 (Avs M g σ ρ0) v (.tup ds) := dv
      cases dq with
      | tup s a => exact ⟨_, rfl, ⟨_, s⟩, h1 _ _ _ H1 R1 w1 iter_tup (fun _ _ => trivial) (.tup s a)⟩
    | str s =>
      refine .inr (.inr (bindI (kp := true) (pu2 := pu) h.so R (k := fun d ρ1 => ofO (itemsOf d) ρ1) q fun d ρ1 v H1 e2 R1 w1 dv h1 => ?_))
      rw [e1] at e2
      cases e2
      have dq : Dq X.K H1 (Avs M g σ ρ0) v (.str s) := dv
      cases dq with
      | str s => exact ⟨_, rfl, h1 _ _ _ H1 R1 w1 iter_str (fun _ _ => trivial) trivial⟩
    | _ => rw [e1] at q; exact q.elim
/-- a slot's own list, in a comprehension that changes nothing -/
theorem ei_own {tg e : Expr} {t : TE} {f : FE} (hK : X.K = K) (h : EvD K M W X .o pu e t f) : EvI K M W X false pu tg e (iList K t) (fItL f) := by
  subst hK
  refine ⟨pi_list h.pe, fun g σ H ρ Q R q => ?_⟩
  refine bindI (kp := false) (pu2 := pu) h.so R q fun d ρ1 v H1 _ R1 w1 dv h1 => ?_
  have dv : Dv X.K M g σ H1 ρ1 .o v d := dv
  rcases dv with dq | ⟨a, vs, ds, rfl, rfl, _, h3, h4⟩
  · cases dq with
    | lst s a => exact ⟨_, rfl, ⟨_, s.seq⟩, h1 _ _ _ H1 R1 w1 iter_lst (fun z => by cases z) (.lst s a)⟩
    | _ => exact h1.elim
  · exact ⟨a, rfl, ⟨vs, .inl (.inl h3)⟩, h1 _ _ _ H1 R1 w1 iter_own (fun z => by cases z) ⟨vs, h3, h4⟩⟩
theorem ei_rng1 {tg a : Expr} {ta : TE} {fa : FE} {x : Str} {p pos : Pos} (hx : x = "range") (hg : Gl X x) (hm : X.mg x = none) (ha : EvD K M W X l1 pu a ta fa) (hs : starEach [a] X.env = [(false, eval a X.env)] := by rfl) (hs2 : starEach [a] X.env = (false, eval a X.env) :: starEach [] X.env := by rfl) :
    EvI K M W X true pu tg (.Call (.Name x p) [a] [] pos) (iRng1 (tCons ta tNil)) (fRng1 fa) := by
  subst hx
  refine ⟨pi_range1 hg hm (pa_cons ha.pe pa_nil hs2) hs, fun g σ H ρ Q R q => ?_⟩
  refine bindI (kp := true) (pu2 := pu) ha.so R q fun d ρ1 v H1 _ R1 w1 dv h1 => ?_
  have du := (show Dv K M g σ H1 ρ1 l1 v d from dv).u
  cases du with
  | int j =>
    by_cases hj : j.natAbs ≤ lim
    · simp only [if_pos hj] at h1
      have hl : (lim : Int) = 1000000 := rfl
      have hj2 : j.natAbs ≤ 1000000 := hj
      exact ⟨j, rfl, by omega, by omega, h1 _ _ _ H1 R1 w1 iter_rng (fun _ _ => trivial) trivial⟩
    · simp only [if_neg hj] at h1
      exact h1.elim
  | _ => exact h1.elim
theorem ei_rng2 {tg a b : Expr} {ta tb : TE} {fa fb : FE} {x : Str} {p pos : Pos} (hx : x = "range") (hg : Gl X x) (hm : X.mg x = none) (ha : EvD K M W X l1 pu1 a ta fa) (hb : EvD K M W X l2 pu2 b tb fb) (hs : starEach [a, b] X.env = [(false, eval a X.env), (false, eval b X.env)] := by rfl) (hs2 : starEach [b] X.env = [(false, eval b X.env)] := by rfl)
    (hs3 : starEach [a, b] X.env = (false, eval a X.env) :: starEach [b] X.env := by rfl) (hs4 : starEach [b] X.env = (false, eval b X.env) :: starEach [] X.env := by rfl) :
    EvI K M W X true (pu1 && pu2) tg (.Call (.Name x p) [a, b] [] pos) (iRng2 (tCons ta (tCons tb tNil))) (fRng2 fa fb) := by
  subst hx
  refine ⟨pi_range2 hg hm (pa_cons ha.pe (pa_cons hb.pe pa_nil hs4) hs3) hs hs2, fun g σ H ρ Q R q => ?_⟩
  refine bindI (kp := true) (pu2 := pu1 && pu2) ha.so R q fun d ρ1 v H1 _ R1 w1 dv h1 => ?_
  refine bindI (kp := true) (pu2 := pu1 && pu2) hb.so R1 h1 fun e ρ2 w H2 _ R2 w2 dv2 h2 => ?_
  have du := (show Dv K M g σ H1 ρ1 l1 v d from dv).u
  have du2 := (show Dv K M g σ H2 ρ2 l2 w e from dv2).u
  cases du with
  | int i =>
    cases du2 with
    | int j =>
      by_cases hj : i.natAbs ≤ lim ∧ j.natAbs ≤ lim
      · simp only [if_pos hj] at h2
        have hl : (lim : Int) = 1000000 := rfl
        have hj2 : i.natAbs ≤ 1000000 := hj.1
        have hj3 : j.natAbs ≤ 1000000 := hj.2
        exact ⟨i, j, rfl, ⟨by omega, by omega, by omega, by omega⟩, h2 _ _ _ H2 R2 (w1.trans w2) iter_rng (fun _ _ => trivial) trivial⟩
      · simp only [if_neg hj] at h2
        exact h2.elim
    | _ => exact h2.elim
  | _ => exact h2.elim
end
end DL

namespace DL
open PySem PySem.Spec PyProof.Rows L2

/-! ### comprehensions -/
abbrev W0 : WX := fun _ _ _ _ => False
def compP (tgt : FG) (c : FT) (f : FE) (ρ0 : Rho) : List D → Option (List D)
  | [] => some []
  | d :: ds => match tgt d ρ0 with
    | some ρt => match c ρt with
      | .ok true _ => match f ρt with
        | .ok y _ => (compP tgt c f ρ0 ds).map (y :: ·)
        | _ => none
      | .ok false _ => compP tgt c f ρ0 ds
      | _ => none
    | none => none
/-- nothing is changed by its parts -/
def fComp (own : List Nat) (it : FA) (tgt : FG) (c : FT) (f : FE) : FA := fun ρ => (it ρ).bind fun ds ρ1 => if ds.length ≤ lim then ofO (compP tgt c f (wipeR ρ1 own) ds) ρ1 else .bad
def mergeR (ρ ρe : Rho) : List Nat → Rho
  | [] => ρ
  | m :: ms => (mergeR ρ ρe ms).set m (ρe.getD m none)
def compT (own M : List Nat) (tgt : FG) (f : FE) : List D → Rho → Out (List D)
  | [], ρ => .ok [] ρ
  | d :: ds, ρ => match tgt d (wipeR ρ own) with
    | some ρt => match f ρt with
      | .ok y ρe => (compT own M tgt f ds (mergeR ρ ρe M)).bind fun ys ρ' => .ok (y :: ys) ρ'
      | _ => .bad
    | none => .bad
/-- the element may change the slots' lists; no test -/
def fCompT (own M : List Nat) (it : FA) (tgt : FG) (f : FE) : FA := fun ρ => (it ρ).bind fun ds ρ1 => if ds.length ≤ lim then compT own M tgt f ds ρ1 else .bad
def fYes : FT := fun ρ => .ok true ρ
structure EvTs (K : PySem.W.Frag) (M : List Nat) (W : WX) (X : Cx) (pu : Bool) (ifs : List Expr) (t : TT) (f : FT) : Prop where
  pe : PTs X ifs t
  so : SoundG K M W (PB) pu t f
section
variable {K : PySem.W.Frag} {M : List Nat} {W : WX} {X : Cx} {pu : Bool}
theorem ets_nil : EvTs K M W X true [] tYes fYes := ⟨pts_nil, fun g σ H ρ Q R h => PostG.fin (v := true) h R Gone.refl rfl⟩
theorem ets_one {c : Expr} {t : TT} {f : FT} (h : EvT K M W X pu c t f) : EvTs K M W X pu [c] t f := ⟨pts_one h.pe, h.so⟩
end

section
variable {K : PySem.W.Frag} {M : List Nat} {g : Gh} {σ : L2.St} {H H1 : Hp} {ρ : Rho} {d : Addr}
/-- the list that is being made, at d -/
def Gh.with_ (g : Gh) (d : Addr) : Gh where
  A := fun a => g.A a ∨ a = d
  R := fun a => g.R a ∨ a = d
  H0 := fun a => if a = d then some (.lst []) else g.H0 a
  hA := fun a h => by
    by_cases e : a = d
    · rw [if_pos e]
      exact fun z => by cases z
    · rw [if_neg e]
      exact g.hA a (h.resolve_right e)
  r0 := g.r0
theorem avs_with {a : Addr} : Avs M (g.with_ d) σ ρ a ↔ Avs M g σ ρ a ∨ a = d := by
  unfold Avs Gh.with_
  constructor
  · rintro ((h | h) | h)
    · exact .inl (.inl h)
    · exact .inr h
    · exact .inl (.inr h)
  · rintro ((h | h) | h)
    · exact .inl (.inl h)
    · exact .inr h
    · exact .inl (.inr h)
theorem Rep.toWith (R : Rep K M g σ H ρ) (hd : H d = none) : Rep K M (g.with_ d) σ (upd H d (.lst [])) ρ where
  len := R.len
  imm := fun i e hi he => by
    obtain ⟨v, h1, h2⟩ := R.imm i e hi he
    exact ⟨v, h1, (h2.anti fun a ha q => (avs_with.mp q).resolve_right fun z => ha (z ▸ hd)).ex (Ex.new hd)⟩
  own := fun i e hi he => by
    obtain ⟨a, vs, ds, h0, h1, h2, h3, h4⟩ := R.own i e hi he
    refine ⟨a, vs, ds, h0, h1, Ex.new hd _ _ h2, (h3.anti fun a ha q => (avs_with.mp q).resolve_right fun z => ha (z ▸ hd)).ex (Ex.new hd), ?_⟩
    have hne : a ≠ d := fun z => by rw [z, hd] at h2; cases h2
    rcases h4 with h4 | ⟨h4, h5⟩
    · exact .inl ((if_neg hne).trans h4)
    · exact .inr ⟨.inl h4, h5⟩
  dis := R.dis
  ex := fun a o h n => by
    by_cases e : a = d
    · subst e
      have h' : (if a = a then some (HO.lst []) else g.H0 a) = some o := h
      rw [if_pos rfl] at h'
      cases h'
      exact upd_same
    · have h' : g.H0 a = some o := (if_neg e).symm.trans h
      rw [upd_ne e]
      exact R.ex a o h' (n.imp (fun z q => z (.inl q)) id)
  dom := fun a h => by
    by_cases e : a = d
    · subst e
      rw [upd_same]
      exact fun z => by cases z
    · rw [upd_ne e]
      refine R.dom a fun z => h ((if_neg e).trans z)
  row := R.row
/-- what is at d changes -/
theorem Rep.atD (R : Rep K M (g.with_ d) σ H ρ) (ho : ¬ Own M σ ρ d) {xs ys : List V} (hd : H d = some (.lst xs)) : Rep K M (g.with_ d) σ (upd H d (.lst ys)) ρ := by
  have k : Kp (fun a => a = d) H (upd H d (.lst ys)) := Kp.lst rfl ⟨xs, hd⟩
  have hb : ∀ a, a = d → Avs M (g.with_ d) σ ρ a := fun a z => avs_with.mpr (.inr z)
  exact {
    len := R.len
    imm := fun i e hi he => by
      obtain ⟨v, h1, h2⟩ := R.imm i e hi he
      exact ⟨v, h1, Dq.kp k hb (fun _ _ z => z) _ h2⟩
    own := fun i e hi he => by
      obtain ⟨a, vs, ds, h0, h1, h2, h3, h4⟩ := R.own i e hi he
      have hne : a ≠ d := fun z => ho ⟨i, hi, ⟨e, he⟩, z ▸ h1⟩
      exact ⟨a, vs, ds, h0, h1, (upd_ne hne).trans h2, DqA.kp k hb (fun _ _ z => z) _ h3, h4⟩
    dis := R.dis
    ex := fun a o h n => by
      have h1 := R.ex a o h n
      by_cases e : a = d
      · subst e
        rw [hd] at h1
        cases h1
        rcases n with n | n
        · exact (n (.inr rfl)).elim
        · exact (n _ rfl).elim
      · rw [upd_ne e]
        exact h1
    dom := fun a h => by
      by_cases e : a = d
      · rw [e, upd_same]
        exact fun z => by cases z
      · rw [upd_ne e]
        exact R.dom a h
    row := R.row }
def delH (H : Hp) (d : Addr) : Hp := fun a => if a = d then none else H a
theorem delH_ne {a : Addr} (h : a ≠ d) : delH H d a = H a := if_neg h
theorem delH_same : delH H d d = none := if_pos rfl
theorem delH_upd {o : HO} (h : H d = some o) : upd (delH H d) d o = H := by
  funext a
  by_cases e : a = d
  · rw [e, upd_same, h]
  · rw [upd_ne e, delH_ne e]
theorem kp_del {xs : List V} (hd : H d = some (.lst xs)) : Kp (fun a => a = d) H (delH H d) := fun a o h n => by
  by_cases e : a = d
  · subst e
    rw [hd] at h
    cases h
    rcases n with n | n
    · exact (n rfl).elim
    · exact (n _ rfl).elim
  · rw [delH_ne e]
    exact h
/-- at the end: the list at d is new -/
theorem Rep.outOf (R : Rep K M (g.with_ d) σ H ρ) (ho : ¬ Own M σ ρ d) (h0 : g.H0 d = none) {xs : List V} (hd : H d = some (.lst xs)) : Rep K M g σ (delH H d) ρ := by
  have k := kp_del hd
  have hb : ∀ a, a = d → Avs M (g.with_ d) σ ρ a := fun a z => avs_with.mpr (.inr z)
  have ha : ∀ a, H a ≠ none → Avs M g σ ρ a → Avs M (g.with_ d) σ ρ a := fun a _ z => avs_with.mpr (.inl z)
  exact {
    len := R.len
    imm := fun i e hi he => by
      obtain ⟨v, h1, h2⟩ := R.imm i e hi he
      exact ⟨v, h1, Dq.kp k hb ha _ h2⟩
    own := fun i e hi he => by
      obtain ⟨a, vs, ds, h0, h1, h2, h3, h4⟩ := R.own i e hi he
      have hne : a ≠ d := fun z => ho ⟨i, hi, ⟨e, he⟩, z ▸ h1⟩
      refine ⟨a, vs, ds, h0, h1, (delH_ne hne).trans h2, DqA.kp k hb ha _ h3, ?_⟩
      rcases h4 with h4 | ⟨h4, h5⟩
      · exact .inl ((if_neg hne).symm.trans h4)
      · exact .inr ⟨h4.resolve_right hne, h5⟩
    dis := R.dis
    ex := fun a o h n => by
      have hne : a ≠ d := fun z => by rw [z, h0] at h; cases h
      rw [delH_ne hne]
      exact R.ex a o ((if_neg hne).trans h) (n.imp (fun z q => z (q.resolve_right hne)) id)
    dom := fun a h => by
      have hne : a ≠ d := fun z => h (by rw [z, h0])
      rw [delH_ne hne]
      exact R.dom a fun z => h ((if_neg hne).symm.trans z)
    row := R.row }
end

section
variable {K : PySem.W.Frag} {M : List Nat} {W : WX} {X : Cx} {pu kp : Bool} {lv l1 l2 : Lv}
theorem h0_none {g : Gh} {σ : L2.St} {H : Hp} {ρ : Rho} (R : Rep K M g σ H ρ) {d : Addr} (h : H d = none) : g.H0 d = none := by
  cases e : g.H0 d with
  | none => rfl
  | some o => exact (R.dom d (by rw [e]; exact fun z => by cases z) h).elim
/-- [elt for tg in iter if ..], nothing is changed by its parts -/
theorem el_comp {elt tg iter : Expr} {ifs : List Expr} {scope : Scope} {own : List (Str × Nat)} {pos : Pos} {wi : TI} {gt : TG} {tt : TT} {te : TE} {fi : FA} {fg : FG} {fc : FT} {fe : FE} {ts : List Nat}
    (hc : X.calm = true) (hN : X.N.Nodup) (hi : EvI K M W X kp pu tg iter wi fi) (ok : BlkOk X.N X.env.scope scope own) (hv : ∀ i ∈ own.map (·.2), i ∉ M) (hts : ∀ i ∈ ts, i ∈ own.map (·.2))
    (hg : ∀ (s : Shared) (H : Hp) (C : Addr) (cl : List (Str × Addr)) (fp : List Addr), EvG K M (X.blk s H scope (compEnvC scope cl C X.env) fp) ts tg gt fg)
    (ht : ∀ (s : Shared) (H : Hp) (C : Addr) (cl : List (Str × Addr)) (fp : List Addr), EvTs K M W0 (X.blk s H scope (compEnvC scope cl C X.env) fp) true ifs tt fc)
    (he : ∀ (s : Shared) (H : Hp) (C : Addr) (cl : List (Str × Addr)) (fp : List Addr), EvD K M W0 (X.blk s H scope (compEnvC scope cl C X.env) fp) .c true elt te fe) (hs : ∀ x, foldedSetIterable iter X.env x = pure x := by intro _; rfl) :
    EvL K M W X pu (.ListComp elt [⟨tg, iter, ifs, 0⟩] scope pos) (tLc wi gt tt te (own.map (·.2))) (fComp (own.map (·.2)) fi fg fc fe) := by
  refine ⟨pe_lc hc hN hi.pi ok (fun s H C cl fp => (hg s H C cl fp).pg) (fun s H C cl fp => (ht s H C cl fp).pe) (fun s H C cl fp => (he s H C cl fp).pe) hs, fun g σ H ρ Q R q => ?_⟩
  obtain ⟨sx, Hx, Cx', clx, fpx⟩ : Shared × Hp × Addr × List (Str × Addr) × List Addr := ⟨X.s_0, H, 0, [], []⟩
  have sog := (hg sx Hx Cx' clx fpx).so
  have sot := (ht sx Hx Cx' clx fpx).so
  have soe := (he sx Hx Cx' clx fpx).so
  generalize own.map (·.2) = vs at *
  unfold fComp at q
  refine hi.so g σ H ρ _ R ?_
  cases e0 : fi ρ with
  | bad => rw [e0] at q; exact q
  | exc x ρ' => rw [e0] at q; exact q
  | ok ds ρ1 =>
    simp only [e0, Out.bind_ok] at q
    have hl : ds.length ≤ lim := by
      by_cases hl : ds.length ≤ lim
      · exact hl
      · rw [if_neg hl] at q
        exact q.elim
    rw [if_pos hl] at q
    refine fun J G okp H1 R1 w1 ip _ hG Dd nD => ?_
    cases ec : compP fg fc fe (wipeR ρ1 vs) ds with
    | none => rw [ec] at q; exact q.elim
    | some ys =>
      rw [ec] at q
      have nown : ¬ Own M σ ρ1 Dd := fun z => R1.avs Dd (.inr z) nD
      have hD0 : g.H0 Dd = none := h0_none R1 nD
      have okD : okp Dd := ip.fresh _ _ _ hG nD
      -- the invariant
      refine lc_it (w := ip.walk) (fun i H => ∃ (rest acc : List D) (av : List V), Rep K M (g.with_ Dd) σ H ρ1 ∧ G (Avs M (g.with_ Dd) σ ρ1) H ∧ H Dd = some (.lst av) ∧ DqA K H (Avs M (g.with_ Dd) σ ρ1) av acc ∧ compP fg fc fe (wipeR ρ1 vs) (ds.drop i) = some rest ∧ acc ++ rest = ys ∧ acc.length ≤ i ∧ Ex H1 H) ?_ (fun i H _ ⟨_, _, _, _, h, _⟩ => ⟨_, h⟩) ?_ ?_
      · refine ⟨ys, [], [], R1.toWith nD, ?_, upd_same, .nil, ec, rfl, Nat.le_refl _, Ex.new nD⟩
        exact ip.mono _ _ (fun _ => False) _ _ hG (Ex.new nD).kp (fun _ z => z.elim) fun a ha z => (avs_with.mp z).resolve_right fun y => ha (y ▸ nD)
      · rintro i x H2 H3 hi' ⟨rest, acc, av, R2, hG2, hD2, hacc, hc2, hap, hlen, ex2⟩ ⟨ex3, d, hd, hdq⟩
        have hdq := hdq _ hG2
        have R3 := R2.kpH ex3
        have own0 : Own M (wipe σ vs) (wipeR ρ1 vs) = Own M σ ρ1 := own_wipe hv
        have Rw : Rep K M (g.with_ Dd) (wipe σ vs) H3 (wipeR ρ1 vs) := R3.wipe hv
        have hdrop : ds.drop i = d :: ds.drop (i + 1) := by
          obtain ⟨hlt, e⟩ := List.getElem?_eq_some_iff.mp hd
          rw [List.drop_eq_getElem_cons hlt, e]
        rw [hdrop] at hc2
        unfold compP at hc2
        refine sog (g.with_ Dd) (wipe σ vs) H3 (wipeR ρ1 vs) x d _ Rw (by rw [Avs.eq' own0]; exact hdq) ?_
        cases et : fg d (wipeR ρ1 vs) with
        | none => rw [et] at hc2; cases hc2
        | some ρt =>
          simp only [et] at hc2
          refine fun σ2 Rt owt wt => ⟨(wt vs hts).trans wipe_wipe, ?_⟩
          have ow2 : Own M σ2 ρt = Own M σ ρ1 := owt.trans own0
          refine sot (g.with_ Dd) σ2 H3 ρt _ Rt ?_
          cases ect : fc ρt with
          | bad => rw [ect] at hc2; cases hc2
          | exc _ _ => rw [ect] at hc2; cases hc2
          | ok b ρc =>
            intro b' H4 Rc owc kc pc bb
            cases (show b' = b from bb)
            obtain ⟨rfl, ex4⟩ := pc rfl
            have G4 : ∀ H', Ex H2 H' → G (Avs M (g.with_ Dd) σ ρ1) H' := fun H' e => ip.mono _ _ (fun _ => False) _ _ hG2 e.kp (fun _ z => z.elim) fun _ _ z => z
            cases b with
            | false =>
              simp only [ect] at hc2
              rw [if_neg (by decide)]
              have ex24 : Ex H2 H4 := ex3.trans ex4
              exact ⟨rest, acc, av, R2.kpH ex24, G4 _ ex24, ex24 _ _ hD2, hacc.ex ex24, hc2, hap, by omega, ex2.trans ex24⟩
            | true =>
              simp only [ect] at hc2
              rw [if_pos rfl]
              refine soe (g.with_ Dd) σ2 H4 ρc _ Rc ?_
              cases ee : fe ρc with
              | bad => rw [ee] at hc2; cases hc2
              | exc _ _ => rw [ee] at hc2; cases hc2
              | ok y ρe =>
                intro v H5 Re owe ke pe dv
                obtain ⟨rfl, ex5⟩ := pe rfl
                simp only [ee] at hc2
                cases er : compP fg fc fe (wipeR ρ1 vs) (ds.drop (i + 1)) with
                | none => rw [er] at hc2; cases hc2
                | some rest' =>
                  rw [er] at hc2
                  have hrest : y :: rest' = rest := Option.some.inj hc2
                  have ex25 : Ex H2 H5 := (ex3.trans ex4).trans ex5
                  have hD5 := ex25 _ _ hD2
                  have dy : Dq K H5 (Avs M (g.with_ Dd) σ ρ1) v y := by
                    rw [← Avs.eq' ow2]
                    exact dv
                  have kD : Kp (fun a => a = Dd) H5 (upd H5 Dd (.lst (av ++ [v]))) := Kp.lst rfl ⟨_, hD5⟩
                  have hb : ∀ a, a = Dd → Avs M (g.with_ Dd) σ ρ1 a := fun a z => avs_with.mpr (.inr z)
                  have hal : av.length = acc.length := hacc.length
                  refine ⟨av, hD5, lim_lt (by have := List.getElem?_eq_some_iff.mp hd; obtain ⟨hlt, _⟩ := this; omega), rest', acc ++ [y], av ++ [v], (R2.kpH ex25).atD nown hD5, ?_, upd_same, ?_, rfl, ?_, ?_, ?_⟩
                  · exact ip.mono _ _ (fun a => a = Dd) _ _ (G4 _ ex25) kD (fun c z => ⟨hb c z, z ▸ okD⟩) fun _ _ z => z
                  · exact DqA.kp kD hb (fun _ _ z => z) _ ((hacc.ex ex25).append (.cons dy .nil))
                  · rw [List.append_assoc, List.singleton_append, hrest, hap]
                  · rw [List.length_append]
                    simp only [List.length_cons, List.length_nil]
                    omega
                  · refine fun a o ha => ?_
                    have hne : a ≠ Dd := ne_of_none ha nD
                    rw [upd_ne hne]
                    exact (ex2.trans ex25) a o ha
      · rintro H2 ⟨rest, acc, av, R2, hG2, hD2, hacc, hc2, hap, hlen, ex2⟩
        rw [List.drop_length] at hc2
        cases hc2
        rw [List.append_nil] at hap
        subst hap
        have h1 := q Dd (delH H2 Dd) av (R2.outOf nown hD0 hD2) (w1.ex fun a o ha => by rw [delH_ne (ne_of_none ha nD)]; exact ex2 a o ha) delH_same (DqA.kp (kp_del hD2) (fun a z => avs_with.mpr (.inr z)) (fun a _ z => avs_with.mpr (.inl z)) _ hacc)
        rw [delH_upd hD2] at h1
        exact h1
theorem mergeR_get (ρ ρe : Rho) (j : Nat) : ∀ ms : List Nat, (mergeR ρ ρe ms)[j]? = if j ∈ ms ∧ j < ρ.length then some (ρe.getD j none) else ρ[j]?
  | [] => by simp [mergeR]
  | m :: ms => by
    have hlen : ∀ ms : List Nat, (mergeR ρ ρe ms).length = ρ.length := by
      intro ms
      induction ms with
      | nil => rfl
      | cons m ms ih =>
        unfold mergeR
        rw [List.length_set, ih]
    unfold mergeR
    by_cases h : m = j
    · subst h
      by_cases hl : m < ρ.length
      · rw [List.getElem?_set_self (by rw [hlen]; exact hl), if_pos ⟨List.mem_cons_self, hl⟩]
      · rw [List.getElem?_eq_none (by rw [List.length_set, hlen]; omega), if_neg (fun q => hl q.2), List.getElem?_eq_none (by omega)]
    · rw [List.getElem?_set_ne h, mergeR_get ρ ρe j ms]
      by_cases hj : j ∈ ms ∧ j < ρ.length
      · rw [if_pos hj, if_pos ⟨List.mem_cons_of_mem _ hj.1, hj.2⟩]
      · rw [if_neg hj, if_neg (fun q => hj ⟨(List.mem_cons.mp q.1).resolve_left (fun z => h z.symm), q.2⟩)]
theorem getD_some {ρe : Rho} {j : Nat} {d : D} (h : some (ρe.getD j none) = some (some d)) : ρe[j]? = some (some d) := by
  rw [List.getD_eq_getElem?_getD] at h
  cases e : ρe[j]? with
  | none => rw [e] at h; cases h
  | some o =>
    rw [e] at h
    cases h
    rfl
section
variable {g : Gh} {σ σt : L2.St} {H H1 : Hp} {ρ ρe : Rho}
theorem own_merge (hσ : ∀ m ∈ M, σt[m]? = σ[m]?) (hl : σ.length = ρ.length) : Own M σ (mergeR ρ ρe M) = Own M σt ρe := by
  funext a
  refine propext ⟨fun ⟨j, hj, ⟨e, he⟩, hs⟩ => ?_, fun ⟨j, hj, ⟨e, he⟩, hs⟩ => ?_⟩
  · have hlt : j < ρ.length := by rw [← hl]; exact (List.getElem?_eq_some_iff.mp hs).1
    rw [mergeR_get, if_pos ⟨hj, hlt⟩] at he
    exact ⟨j, hj, ⟨e, getD_some he⟩, (hσ j hj).trans hs⟩
  · have hs' : σ[j]? = some (some (.ref a)) := (hσ j hj).symm.trans hs
    have hlt : j < ρ.length := by rw [← hl]; exact (List.getElem?_eq_some_iff.mp hs').1
    refine ⟨j, hj, ⟨e, ?_⟩, hs'⟩
    rw [mergeR_get, if_pos ⟨hj, hlt⟩, List.getD_eq_getElem?_getD, he]
    rfl
theorem Rep.merge (R : Rep K M g σ H ρ) (Re : Rep K M g σt H1 ρe) (hσ : ∀ m ∈ M, σt[m]? = σ[m]?) (ow : Own M σt ρe = Own M σ ρ) (k : Kp (Own M σ ρ) H H1) : Rep K M g σ H1 (mergeR ρ ρe M) := by
  have om : Own M σ (mergeR ρ ρe M) = Own M σt ρe := own_merge hσ R.len
  have av : Avs M g σ (mergeR ρ ρe M) = Avs M g σt ρe := Avs.eq' om
  have av2 : Avs M g σ (mergeR ρ ρe M) = Avs M g σ ρ := Avs.eq' (om.trans ow)
  exact {
    len := by
      have h2 : ∀ ms : List Nat, (mergeR ρ ρe ms).length = ρ.length := by
        intro ms
        induction ms with
        | nil => rfl
        | cons m ms ih =>
          unfold mergeR
          rw [List.length_set, ih]
      rw [h2]
      exact R.len
    imm := fun j d hj hd => by
      rw [mergeR_get, if_neg (fun q => hj q.1)] at hd
      obtain ⟨v, h1, h2⟩ := R.imm j d hj hd
      exact ⟨v, h1, by rw [av2]; exact Dq.kp k (fun a z => .inr z) (fun _ _ z => z) _ h2⟩
    own := fun j d hj hd => by
      have hlt : j < ρ.length := by
        by_cases hl : j < ρ.length
        · exact hl
        · rw [mergeR_get, if_neg (fun q => hl q.2), List.getElem?_eq_none (by omega)] at hd
          cases hd
      rw [mergeR_get, if_pos ⟨hj, hlt⟩] at hd
      obtain ⟨a, vs, ds, h0, h1, h2, h3, h4⟩ := Re.own j d hj (getD_some hd)
      exact ⟨a, vs, ds, h0, (hσ j hj).symm.trans h1, h2, by rw [av]; exact h3, h4⟩
    dis := fun i j a hi hj o1 o2 => by
      have back : ∀ {j}, j ∈ M → OwnAt σ (mergeR ρ ρe M) j a → OwnAt σt ρe j a := fun {j} hj ⟨⟨e, he⟩, hs⟩ => by
        have hlt : j < ρ.length := by rw [← R.len]; exact (List.getElem?_eq_some_iff.mp hs).1
        rw [mergeR_get, if_pos ⟨hj, hlt⟩] at he
        exact ⟨⟨e, getD_some he⟩, (hσ j hj).trans hs⟩
      exact Re.dis i j a hi hj (back hi o1) (back hj o2)
    ex := Re.ex
    dom := Re.dom
    row := R.row }
end
/-- [elt for tg in iter], the element changes slots' lists -/
theorem el_compT {elt tg iter : Expr} {scope : Scope} {own : List (Str × Nat)} {pos : Pos} {wi : TI} {gt : TG} {te : TE} {fi : FA} {fg : FG} {fe : FE} {ts : List Nat} {pu2 : Bool}
    (hc : X.calm = true) (hN : X.N.Nodup) (hi : EvI K M W X true pu tg iter wi fi) (ok : BlkOk X.N X.env.scope scope own) (hv : ∀ i ∈ own.map (·.2), i ∉ M) (hts : ∀ i ∈ ts, i ∈ own.map (·.2))
    (hg : ∀ (s : Shared) (H : Hp) (C : Addr) (cl : List (Str × Addr)) (fp : List Addr), EvG K M (X.blk s H scope (compEnvC scope cl C X.env) fp) ts tg gt fg)
    (he : ∀ (s : Shared) (H : Hp) (C : Addr) (cl : List (Str × Addr)) (fp : List Addr), EvD K M W0 (X.blk s H scope (compEnvC scope cl C X.env) fp) .c pu2 elt te fe) (hs : ∀ x, foldedSetIterable iter X.env x = pure x := by intro _; rfl) :
    EvL K M W X false (.ListComp elt [⟨tg, iter, [], 0⟩] scope pos) (tLc wi gt tYes te (own.map (·.2))) (fCompT (own.map (·.2)) M fi fg fe) := by
  refine ⟨pe_lc hc hN hi.pi ok (fun s H C cl fp => (hg s H C cl fp).pg) (fun s H C cl fp => pts_nil) (fun s H C cl fp => (he s H C cl fp).pe) hs, fun g σ H ρ Q R q => ?_⟩
  obtain ⟨sx, Hx, Cx', clx, fpx⟩ : Shared × Hp × Addr × List (Str × Addr) × List Addr := ⟨X.s_0, H, 0, [], []⟩
  have sog := (hg sx Hx Cx' clx fpx).so
  have soe := (he sx Hx Cx' clx fpx).so
  generalize own.map (·.2) = vs at *
  unfold fCompT at q
  refine hi.so g σ H ρ _ R ?_
  cases e0 : fi ρ with
  | bad => rw [e0] at q; exact q
  | exc x ρ' => rw [e0] at q; exact q
  | ok ds ρ1 =>
    simp only [e0, Out.bind_ok] at q
    have hl : ds.length ≤ lim := by
      by_cases hl : ds.length ≤ lim
      · exact hl
      · rw [if_neg hl] at q
        exact q.elim
    rw [if_pos hl] at q
    refine fun J G okp H1 R1 w1 ip hok hG Dd nD => ?_
    have hok := hok rfl
    cases ec : compT vs M fg fe ds ρ1 with
    | bad => rw [ec] at q; exact q.elim
    | exc _ _ =>
      exfalso
      have key : ∀ (ds : List D) (ρ : Rho) x r, compT vs M fg fe ds ρ ≠ .exc x r := by
        intro ds
        induction ds with
        | nil => intro ρ x r z; cases z
        | cons d ds ih =>
          intro ρ x r z
          unfold compT at z
          cases e1 : fg d (wipeR ρ vs) with
          | none => rw [e1] at z; cases z
          | some ρt =>
            simp only [e1] at z
            cases e2 : fe ρt with
            | bad => rw [e2] at z; cases z
            | exc _ _ => rw [e2] at z; cases z
            | ok y ρe =>
              simp only [e2] at z
              cases e3 : compT vs M fg fe ds (mergeR ρ ρe M) with
              | bad => rw [e3] at z; cases z
              | exc x' r' => exact ih _ _ _ e3
              | ok ys ρ' => rw [e3] at z; cases z
      exact key _ _ _ _ ec
    | ok ys ρf =>
      rw [ec] at q
      have nown : ¬ Own M σ ρ1 Dd := fun z => R1.avs Dd (.inr z) nD
      have hD0 : g.H0 Dd = none := h0_none R1 nD
      refine lc_it (w := ip.walk) (fun i H => ∃ (ρi : Rho) (rest acc : List D) (av : List V), Rep K M (g.with_ Dd) σ H ρi ∧ Own M σ ρi = Own M σ ρ1 ∧ G (Avs M (g.with_ Dd) σ ρ1) H ∧ H Dd = some (.lst av) ∧ DqA K H (Avs M (g.with_ Dd) σ ρ1) av acc ∧ compT vs M fg fe (ds.drop i) ρi = .ok rest ρf ∧ acc ++ rest = ys ∧ acc.length ≤ i ∧ Kp (Own M σ ρ1) H1 H) ?_ (fun i H _ ⟨_, _, _, _, _, _, h, _⟩ => ⟨_, h⟩) ?_ ?_
      · refine ⟨ρ1, ys, [], [], R1.toWith nD, rfl, ?_, upd_same, .nil, ec, rfl, Nat.le_refl _, (Ex.new nD).kp⟩
        exact ip.mono _ _ (fun _ => False) _ _ hG (Ex.new nD).kp (fun _ z => z.elim) fun a ha z => (avs_with.mp z).resolve_right fun y => ha (y ▸ nD)
      · rintro i x H2 H3 hi' ⟨ρi, rest, acc, av, R2, owi, hG2, hD2, hacc, hc2, hap, hlen, ex2⟩ ⟨ex3, d, hd, hdq⟩
        have hdq := hdq _ hG2
        have R3 := R2.kpH ex3
        have own0 : Own M (wipe σ vs) (wipeR ρi vs) = Own M σ ρi := own_wipe hv
        have Rw : Rep K M (g.with_ Dd) (wipe σ vs) H3 (wipeR ρi vs) := R3.wipe hv
        have hdrop : ds.drop i = d :: ds.drop (i + 1) := by
          obtain ⟨hlt, e⟩ := List.getElem?_eq_some_iff.mp hd
          rw [List.drop_eq_getElem_cons hlt, e]
        rw [hdrop] at hc2
        unfold compT at hc2
        refine sog (g.with_ Dd) (wipe σ vs) H3 (wipeR ρi vs) x d _ Rw (by rw [Avs.eq' (own0.trans owi)]; exact hdq) ?_
        cases et : fg d (wipeR ρi vs) with
        | none => rw [et] at hc2; cases hc2
        | some ρt =>
          simp only [et] at hc2
          refine fun σ2 Rt owt wt => ⟨(wt vs hts).trans wipe_wipe, ?_⟩
          have ow2 : Own M σ2 ρt = Own M σ ρ1 := (owt.trans own0).trans owi
          show te σ2 H3 _
          refine soe (g.with_ Dd) σ2 H3 ρt _ Rt ?_
          cases ee : fe ρt with
          | bad => rw [ee] at hc2; cases hc2
          | exc _ _ => rw [ee] at hc2; cases hc2
          | ok y ρe =>
            intro v H5 Re owe ke pe dv
            simp only [ee] at hc2
            cases er : compT vs M fg fe (ds.drop (i + 1)) (mergeR ρi ρe M) with
            | bad => rw [er] at hc2; cases hc2
            | exc _ _ => rw [er] at hc2; cases hc2
            | ok rest' ρ' =>
              rw [er] at hc2
              rw [Out.bind_ok] at hc2
              injection hc2 with hrest hρ
              subst hρ
              have owe1 : Own M σ2 ρe = Own M σ ρ1 := owe.trans ow2
              have hσ : ∀ m ∈ M, σ2[m]? = σ[m]? := fun m hm => by
                have hmv : m ∉ vs := fun z => hv m z hm
                have h1 := congrArg (fun l => l[m]?) (wt vs hts)
                simp only [wipe_get, if_neg hmv] at h1
                exact h1
              have ke1 : Kp (Own M σ ρ1) H3 H5 := by rw [← ow2]; exact ke
              have k25 : Kp (Own M σ ρ1) H2 H5 := (ex3.kp).trans ke1
              have Rm : Rep K M (g.with_ Dd) σ H5 (mergeR ρi ρe M) := R3.merge Re hσ (owe1.trans owi.symm) (by rw [owi]; exact ke1)
              have owm : Own M σ (mergeR ρi ρe M) = Own M σ ρ1 := (own_merge hσ R3.len).trans owe1
              have hD5 : H5 Dd = some (.lst av) := k25 _ _ hD2 (.inl nown)
              have avE : Avs M (g.with_ Dd) σ2 ρe = Avs M (g.with_ Dd) σ ρ1 := Avs.eq' owe1
              have dy : Dq K H5 (Avs M (g.with_ Dd) σ ρ1) v y := by
                rw [← avE]
                exact dv
              have kD : Kp (fun a => a = Dd) H5 (upd H5 Dd (.lst (av ++ [v]))) := Kp.lst rfl ⟨_, hD5⟩
              have hb : ∀ a, a = Dd → Avs M (g.with_ Dd) σ ρ1 a := fun a z => avs_with.mpr (.inr z)
              have ho : ∀ a, Own M σ ρ1 a → Avs M (g.with_ Dd) σ ρ1 a := fun a z => .inr z
              have hal : av.length = acc.length := hacc.length
              refine ⟨av, hD5, lim_lt (by have := List.getElem?_eq_some_iff.mp hd; obtain ⟨hlt, _⟩ := this; omega), mergeR ρi ρe M, rest', acc ++ [y], av ++ [v], Rm.atD (by rw [owm]; exact nown) hD5, owm, ?_, upd_same, ?_, er, ?_, ?_, ?_⟩
              · exact ip.mono _ _ (fun a => a = Dd) _ _ (ip.mono _ _ (Own M σ ρ1) _ _ hG2 k25 (fun c z => ⟨ho c z, hok c⟩) fun _ _ z => z) kD (fun c z => ⟨hb c z, hok c⟩) fun _ _ z => z
              · exact DqA.kp kD hb (fun _ _ z => z) _ ((DqA.kp k25 ho (fun _ _ z => z) _ hacc).append (.cons dy .nil))
              · rw [List.append_assoc, List.singleton_append, hrest, hap]
              · rw [List.length_append]
                simp only [List.length_cons, List.length_nil]
                omega
              · refine fun a o ha hn => ?_
                have hne : a ≠ Dd := ne_of_none ha nD
                rw [upd_ne hne]
                exact k25 a o (ex2 a o ha hn) hn
      · rintro H2 ⟨ρi, rest, acc, av, R2, owi, hG2, hD2, hacc, hc2, hap, hlen, ex2⟩
        rw [List.drop_length] at hc2
        injection hc2 with hr hρ
        subst hr hρ
        rw [List.append_nil] at hap
        subst hap
        have nown2 : ¬ Own M σ ρi Dd := by rw [owi]; exact nown
        have av2 : Avs M (g.with_ Dd) σ ρi = Avs M (g.with_ Dd) σ ρ1 := Avs.eq' owi
        have h1 := q Dd (delH H2 Dd) av (R2.outOf nown2 hD0 hD2) ⟨owi.trans w1.ow, w1.kp.trans (by
          rw [← w1.ow]
          exact fun a o ha hn => by rw [delH_ne (ne_of_none ha nD)]; exact ex2 a o ha hn), fun z => by cases z⟩ delH_same (DqA.kp (kp_del hD2) (fun a z => avs_with.mpr (.inr z)) (fun a _ z => by rw [Avs.eq' owi] at z; exact avs_with.mpr (.inl z)) _ hacc)
        rw [delH_upd hD2] at h1
        exact h1
end
end DL

namespace DL
open PySem PySem.Spec PyProof.Rows L2

/-! ### statements -/
inductive SO where
  | nx (r : Rho) | ret (d : D) (r : Rho) | bk (r : Rho) | ct (r : Rho) | exc (x : Exn) (r : Rho) | bad
abbrev FS := Rho → SO
def MonoG (G : (Addr → Prop) → Hp → Prop) : Prop := ∀ B B' C H H', G B H → Kp C H H' → (∀ c, C c → B c) → (∀ a, H a ≠ none → B' a → B a) → G B' H'
/-- what was held, and reached by no slot's list, is held still -/
def Frm (M : List Nat) (g : Gh) (σ : L2.St) (H : Hp) (ρ : Rho) (σ' : L2.St) (H' : Hp) (ρ' : Rho) : Prop := ∀ G, MonoG G → G (Avs M g σ ρ) H → G (Avs M g σ' ρ') H'
section
variable (K : PySem.W.Frag) (M : List Nat) (W : WX)
def PostS (g : Gh) (σ : L2.St) (H : Hp) (ρ : Rho) (E : Ends) (o : SO) : Prop := match o with
  | .nx ρ' => ∀ σ' H', Rep K M g σ' H' ρ' → Frm M g σ H ρ σ' H' ρ' → E.nx σ' H'
  | .bk ρ' => ∀ σ' H', Rep K M g σ' H' ρ' → Frm M g σ H ρ σ' H' ρ' → E.bk σ' H'
  | .ct ρ' => ∀ σ' H', Rep K M g σ' H' ρ' → Frm M g σ H ρ σ' H' ρ' → E.ct σ' H'
  | .ret d ρ' => ∀ v σ' H', Rep K M g σ' H' ρ' → Dq K H' g.A v d → E.rt v H'
  | .exc x ρ' => ∀ c dd σ' H', Rep K M g σ' H' ρ' → XRep K H' x c dd → W c dd σ' H'
  | .bad => False
def SoundS (t : TS) (F : FS) : Prop := ∀ g σ H ρ E, Rep K M g σ H ρ → PostS K M W g σ H ρ E (F ρ) → t E σ H
structure EvS (X : Cx) (st : Stmt) (t : TS) (F : FS) : Prop where
  ps : PS X st t
  so : SoundS K M W t F
structure EvSs (X : Cx) (st : List Stmt) (t : TS) (F : FS) : Prop where
  ps : PSs X st t
  so : SoundS K M W t F
end
section
variable {M : List Nat} {g : Gh} {σ σ1 σ2 : L2.St} {H H1 H2 : Hp} {ρ ρ1 ρ2 : Rho}
theorem Frm.refl : Frm M g σ H ρ σ H ρ := fun _ _ h => h
theorem Frm.trans (a : Frm M g σ H ρ σ1 H1 ρ1) (b : Frm M g σ1 H1 ρ1 σ2 H2 ρ2) : Frm M g σ H ρ σ2 H2 ρ2 := fun G m h => b G m (a G m h)
theorem Gone.frm {p : Bool} (w : Gone M σ p H ρ H1 ρ1) : Frm M g σ H ρ σ H1 ρ1 := fun G m h => by
  rw [Avs.eq w.ow]
  exact m _ _ _ _ _ h w.kp (fun c z => .inr z) fun _ _ z => z
theorem Frm.same (h : Own M σ1 ρ1 = Own M σ ρ) : Frm M g σ H ρ σ1 H ρ1 := fun G m q => by
  rw [Avs.eq' h]
  exact q
end
def sSeq (F G : FS) : FS := fun ρ => match F ρ with
  | .nx ρ1 => G ρ1
  | o => o
def sNx : FS := fun ρ => .nx ρ
def sBk : FS := fun ρ => .bk ρ
def sRetN : FS := fun ρ => .ret .non ρ
def sBad : FS := fun _ => .bad
def thenS {α : Type} (o : Out α) (k : α → Rho → SO) : SO := match o with
  | .ok a r => k a r
  | .exc x r => .exc x r
  | .bad => .bad
def sExpr (f : FE) : FS := fun ρ => thenS (f ρ) fun _ ρ1 => .nx ρ1
def sRet (f : FE) : FS := fun ρ => thenS (f ρ) fun d ρ1 => .ret d ρ1
def sIf (c : FT) (F G : FS) : FS := fun ρ => thenS (c ρ) fun b ρ1 => if b then F ρ1 else G ρ1
def sSet (i : Nat) (f : FE) : FS := fun ρ => thenS (f ρ) fun d ρ1 => .nx (ρ1.set i (some d))
def sSetL (i : Nat) (f : FA) : FS := fun ρ => thenS (f ρ) fun ds ρ1 => if i < ρ1.length then .nx (ρ1.set i (some (.lst ds))) else .bad
def sAsg (f : FE) (t : FG) : FS := fun ρ => thenS (f ρ) fun d ρ1 => match t d ρ1 with
  | some ρ2 => .nx ρ2
  | none => .bad
def sPar (i j : Nat) (f h : FE) : FS := fun ρ => thenS (f ρ) fun d ρ1 => thenS (h ρ1) fun e ρ2 => .nx ((ρ2.set i (some d)).set j (some e))
/-- the first a new list of a slot's own -/
def sParL (i j : Nat) (f : FA) (h : FE) : FS := fun ρ => thenS (f ρ) fun ds ρ1 => match h ρ1 with
  | .ok e ρ2 => if i < ρ2.length then .nx ((ρ2.set i (some (.lst ds))).set j (some e)) else .bad
  | _ => .bad
def sAug (op : Int → Int → Int) (i : Nat) (f : FE) : FS := fun ρ => match ρ[i]? with
  | some (some (.int k)) => thenS (f ρ) fun d ρ1 => match d with
    | .int n => .nx (ρ1.set i (some (.int (op k n))))
    | _ => .bad
  | _ => .bad
def sSetIx (i : Nat) (fi fe : FE) : FS := fun ρ => thenS (fe ρ) fun e ρ1 => match ρ1[i]? with
  | some (some _) => thenS (fi ρ1) fun k ρ2 => match ρ2[i]? with
    | some (some (.lst ds)) => match k with
      | .int n => match ixN ds.length n with
        | some j => .nx (ρ2.set i (some (.lst (ds.set j e))))
        | none => .bad
      | _ => .bad
    | _ => .bad
  | _ => .bad
def sApp (i : Nat) (fe : FE) : FS := fun ρ => match ρ[i]? with
  | some (some _) => thenS (fe ρ) fun e ρ1 => match ρ1[i]? with
    | some (some (.lst ds)) => if ds.length < lim then .nx (ρ1.set i (some (.lst (ds ++ [e])))) else .bad
    | _ => .bad
  | _ => .bad
def loopF (tgt : FG) (body : FS) : List D → Rho → SO
  | [], ρ => .nx ρ
  | d :: ds, ρ => match tgt d ρ with
    | some ρt => match body ρt with
      | .nx ρ' => loopF tgt body ds ρ'
      | .ct ρ' => loopF tgt body ds ρ'
      | .bk ρ' => .nx ρ'
      | o => o
    | none => .bad
def sFor (it : FA) (tgt : FG) (body : FS) : FS := fun ρ => thenS (it ρ) fun ds ρ1 => loopF tgt body ds ρ1
def whileF (c : FT) (body : FS) : Nat → Rho → SO
  | 0, _ => .bad
  | n + 1, ρ => thenS (c ρ) fun b ρ1 => if b then (match body ρ1 with
      | .nx ρ' => whileF c body n ρ'
      | .ct ρ' => whileF c body n ρ'
      | .bk ρ' => .nx ρ'
      | o => o) else .nx ρ1
abbrev fuel : Nat := 1000000
def sWhile (c : FT) (body : FS) : FS := fun ρ => whileF c body fuel ρ

section
variable {K : PySem.W.Frag} {M : List Nat} {W : WX} {X : Cx} {pu pu1 pu2 kp : Bool} {lv l1 l2 : Lv}
theorem useS {α β : Type} {P : Gh → L2.St → Hp → Rho → α → β → Prop} {t : L2.St → Hp → (α → Hp → Prop) → Prop} {f : Rho → Out β} {k : β → Rho → SO} {g : Gh} {σ σ0 : L2.St} {H H0 : Hp} {ρ ρ0 : Rho} {E : Ends} (s : SoundG K M W P pu t f) {q : α → Hp → Prop} (R : Rep K M g σ H ρ)
    (h : PostS K M W g σ0 H0 ρ0 E (thenS (f ρ) k)) (hk : ∀ d ρ' v H', f ρ = .ok d ρ' → Rep K M g σ H' ρ' → Gone M σ pu H ρ H' ρ' → P g σ H' ρ' v d → PostS K M W g σ0 H0 ρ0 E (k d ρ') → q v H') : t σ H q := by
  refine s.use R (fun e => ?_) (fun x ρ' e => ?_) (fun d ρ' v H' e R' ow kp p dv => hk d ρ' v H' e R' ⟨ow, kp, p⟩ dv ?_)
  · rw [e] at h
    exact h
  · rw [e] at h
    exact fun c dd H' r x => h c dd σ H' r x
  · rw [e] at h
    exact h
theorem useL {t : TE} {e : Expr} {f : FA} {k : List D → Rho → SO} {g : Gh} {σ σ0 : L2.St} {H H0 : Hp} {ρ ρ0 : Rho} {E : Ends} (s : EvL K M W X pu e t f) {q : VK} (R : Rep K M g σ H ρ)
    (h : PostS K M W g σ0 H0 ρ0 E (thenS (f ρ) k)) (hk : ∀ ds ρ' p H1 vs, f ρ = .ok ds ρ' → Rep K M g σ H1 ρ' → Gone M σ pu H ρ H1 ρ' → H1 p = none → DqA K H1 (Avs M g σ ρ') vs ds → PostS K M W g σ0 H0 ρ0 E (k ds ρ') → q (.ref p) (upd H1 p (.lst vs))) : t σ H q := by
  refine s.so g σ H ρ q R ?_
  cases e : f ρ with
  | bad => rw [e] at h; exact h
  | exc x ρ' =>
    rw [e] at h
    exact fun c dd H' r x => h c dd σ H' r x
  | ok ds ρ' =>
    rw [e] at h
    exact fun p H1 vs R1 w np dv => hk ds ρ' p H1 vs e R1 w np dv h

theorem ss_nil : EvSs K M W X [] tNext sNx := ⟨pss_nil, fun g σ H ρ E R h => h σ H R Frm.refl⟩
theorem ss_cons {st : Stmt} {rest : List Stmt} {t u : TS} {F G : FS} (h1 : EvS K M W X st t F) (h2 : EvSs K M W X rest u G) : EvSs K M W X (st :: rest) (tSeq t u) (sSeq F G) := by
  refine ⟨pss_cons h1.ps h2.ps, fun g σ H ρ E R h => ?_⟩
  unfold sSeq at h
  refine h1.so g σ H ρ { E with nx := u E } R ?_
  cases e : F ρ with
  | nx ρ1 =>
    rw [e] at h
    refine fun σ1 H1 R1 f1 => h2.so g σ1 H1 ρ1 E R1 ?_
    have h : PostS K M W g σ H ρ E (G ρ1) := h
    cases e2 : G ρ1 with
    | nx ρ2 => rw [e2] at h; exact fun σ2 H2 R2 f2 => h σ2 H2 R2 (f1.trans f2)
    | bk ρ2 => rw [e2] at h; exact fun σ2 H2 R2 f2 => h σ2 H2 R2 (f1.trans f2)
    | ct ρ2 => rw [e2] at h; exact fun σ2 H2 R2 f2 => h σ2 H2 R2 (f1.trans f2)
    | ret d ρ2 => rw [e2] at h; exact h
    | exc x ρ2 => rw [e2] at h; exact h
    | bad => rw [e2] at h; exact h
  | bk ρ1 => rw [e] at h; exact h
  | ct ρ1 => rw [e] at h; exact h
  | ret d ρ1 => rw [e] at h; exact h
  | exc x ρ1 => rw [e] at h; exact h
  | bad => rw [e] at h; exact h
theorem ss_one {st : Stmt} {t : TS} {F : FS} (h : EvS K M W X st t F) : EvSs K M W X [st] t F := ⟨pss_one h.ps, h.so⟩
theorem s_bad {st : Stmt} : EvS K M W X st tNever sBad := ⟨ps_never, fun g σ H ρ E R h => h⟩
theorem s_break {pos : Pos} : EvS K M W X (.Break pos) tBreak sBk := ⟨ps_break, fun g σ H ρ E R h => h σ H R Frm.refl⟩
theorem s_expr {e : Expr} {t : TE} {f : FE} {pos : Pos} (h : EvD K M W X lv pu e t f) (hs : swapsWith e none pos.line X.env = pure false := by rfl) : EvS K M W X (.Expr e pos) (tDrop t) (sExpr f) := by
  refine ⟨ps_expr h.pe hs, fun g σ H ρ E R q => ?_⟩
  exact useS h.so R q fun d ρ1 v H1 _ R1 w1 dv h1 => h1 σ H1 R1 w1.frm
theorem s_ret {e : Expr} {t : TE} {f : FE} {pos : Pos} (h : EvD K M W X lv pu e t f) : EvS K M W X (.Return (some e) pos) (tRet t) (sRet f) := by
  refine ⟨ps_ret h.pe, fun g σ H ρ E R q => ?_⟩
  exact useS h.so R q fun d ρ1 v H1 _ R1 w1 dv h1 => h1 v σ H1 R1 (show Dv K M g σ H1 ρ1 lv v d from dv).u
theorem s_retN {pos : Pos} : EvS K M W X (.Return none pos) tRetN sRetN := ⟨ps_retN, fun g σ H ρ E R q => q .non σ H R .non⟩
theorem s_if {c : Expr} {a b : List Stmt} {tc : TT} {t u : TS} {fc : FT} {F G : FS} {pos : Pos} (hc : EvT K M W X pu c tc fc) (ha : EvSs K M W X a t F) (hb : EvSs K M W X b u G) : EvS K M W X (.If c a b pos) (tIfS tc t u) (sIf fc F G) := by
  refine ⟨ps_if hc.pe ha.ps hb.ps, fun g σ H ρ E R q => ?_⟩
  refine useS hc.so R q fun d ρ1 v H1 _ R1 w1 dv h1 => ?_
  cases (show v = d from dv)
  have key : ∀ {t : TS} {F : FS}, SoundS K M W t F → PostS K M W g σ H ρ E (F ρ1) → t E σ H1 := fun {t F} so h => by
    refine so g σ H1 ρ1 E R1 ?_
    have f1 : Frm M g σ H ρ σ H1 ρ1 := w1.frm
    cases e2 : F ρ1 with
    | nx ρ2 => rw [e2] at h; exact fun σ2 H2 R2 f2 => h σ2 H2 R2 (f1.trans f2)
    | bk ρ2 => rw [e2] at h; exact fun σ2 H2 R2 f2 => h σ2 H2 R2 (f1.trans f2)
    | ct ρ2 => rw [e2] at h; exact fun σ2 H2 R2 f2 => h σ2 H2 R2 (f1.trans f2)
    | ret d ρ2 => rw [e2] at h; exact h
    | exc x ρ2 => rw [e2] at h; exact h
    | bad => rw [e2] at h; exact h
  cases d with
  | true => exact key ha.so h1
  | false => exact key hb.so h1

/-! stores -/
section
variable {g : Gh} {σ : L2.St} {H H1 : Hp} {ρ : Rho}
/-- slot i gets a new list of its own -/
theorem Rep.setOwn (R : Rep K M g σ H ρ) {i : Nat} {p : Addr} {vs : List V} {ds : List D} (hi : i ∈ M) (hi0 : i ≠ 0) (hl : i < ρ.length) (np : H p = none) (dv : DqA K H (Avs M g σ ρ) vs ds) :
    Rep K M g (σ.set i (some (.ref p))) (upd H p (.lst vs)) (ρ.set i (some (.lst ds))) ∧ ∀ a, H a ≠ none → Avs M g (σ.set i (some (.ref p))) (ρ.set i (some (.lst ds))) a → Avs M g σ ρ a := by
  have hls : i < σ.length := by rw [R.len]; exact hl
  have ow : ∀ a, Own M (σ.set i (some (.ref p))) (ρ.set i (some (.lst ds))) a → a = p ∨ Own M σ ρ a := fun a ⟨j, hj, ⟨e, he⟩, hs⟩ => by
    by_cases hij : i = j
    · subst hij
      rw [List.getElem?_set_self hls] at hs
      cases hs
      exact .inl rfl
    · rw [List.getElem?_set_ne hij] at he hs
      exact .inr ⟨j, hj, ⟨e, he⟩, hs⟩
  have av : ∀ a, H a ≠ none → Avs M g (σ.set i (some (.ref p))) (ρ.set i (some (.lst ds))) a → Avs M g σ ρ a := fun a ha h => by
    rcases h with h | h
    · exact .inl h
    · rcases ow a h with h | h
      · exact (ha (h ▸ np)).elim
      · exact .inr h
  refine ⟨?_, av⟩
  have ex := Ex.new (o := .lst vs) np
  have up : ∀ {v : V} {d : D}, Dq K H (Avs M g σ ρ) v d → Dq K (upd H p (.lst vs)) (Avs M g (σ.set i (some (.ref p))) (ρ.set i (some (.lst ds)))) v d := fun {v d} h => Dq.kp (B := fun _ => False) ex.kp (fun _ z => z.elim) av d h
  have upA : ∀ {v : List V} {d : List D}, DqA K H (Avs M g σ ρ) v d → DqA K (upd H p (.lst vs)) (Avs M g (σ.set i (some (.ref p))) (ρ.set i (some (.lst ds)))) v d := fun {v d} h => DqA.kp (B := fun _ => False) ex.kp (fun _ z => z.elim) av d h
  exact {
    len := by rw [List.length_set, List.length_set]; exact R.len
    imm := fun j d hj hd => by
      have hij : i ≠ j := fun q => hj (q ▸ hi)
      rw [List.getElem?_set_ne hij] at hd
      obtain ⟨v, h1, h2⟩ := R.imm j d hj hd
      exact ⟨v, by rw [List.getElem?_set_ne hij]; exact h1, up h2⟩
    own := fun j d hj hd => by
      by_cases hij : i = j
      · subst hij
        rw [List.getElem?_set_self hl] at hd
        cases hd
        exact ⟨p, vs, ds, rfl, List.getElem?_set_self hls, upd_same, upA dv, .inl (h0_none R np)⟩
      · rw [List.getElem?_set_ne hij] at hd
        obtain ⟨a, us, es, h0, h1, h2, h3, h4⟩ := R.own j d hj hd
        exact ⟨a, us, es, h0, by rw [List.getElem?_set_ne hij]; exact h1, ex _ _ h2, upA h3, h4⟩
    dis := fun j k a hj hk o1 o2 => by
      have cls : ∀ {j}, j ∈ M → OwnAt (σ.set i (some (.ref p))) (ρ.set i (some (.lst ds))) j a → (j = i ∧ a = p) ∨ (j ≠ i ∧ OwnAt σ ρ j a) := fun {j} hj ⟨⟨e, he⟩, hs⟩ => by
        by_cases hij : i = j
        · subst hij
          rw [List.getElem?_set_self hls] at hs
          cases hs
          exact .inl ⟨rfl, rfl⟩
        · rw [List.getElem?_set_ne hij] at he hs
          exact .inr ⟨fun z => hij z.symm, ⟨e, he⟩, hs⟩
      have old : ∀ {j}, j ∈ M → OwnAt σ ρ j a → a ≠ p := fun {j} hj o e => by
        have := R.avs a (.inr ⟨j, hj, o⟩)
        rw [e] at this
        exact this np
      rcases cls hj o1 with ⟨e1, e2⟩ | ⟨n1, o1⟩
      · rcases cls hk o2 with ⟨e3, _⟩ | ⟨n2, o2⟩
        · rw [e1, e3]
        · exact (old hk o2 e2).elim
      · rcases cls hk o2 with ⟨e3, e4⟩ | ⟨n2, o2⟩
        · exact (old hj o1 e4).elim
        · exact R.dis j k a hj hk o1 o2
    ex := R.ex.trans ex.kp
    dom := fun a h q => R.dom a h (ex.back q)
    row := fun a h => by
      obtain ⟨h1, h2⟩ := R.row a h
      exact ⟨h1, by rw [List.getElem?_set_ne hi0]; exact h2⟩ }
/-- a slot's own list changes -/
theorem Rep.chg (R : Rep K M g σ H ρ) {i : Nat} {a : Addr} {vs : List V} {ds : List D} {d0 : D} (hi : i ∈ M) (e1 : ρ[i]? = some (some d0)) (hs : σ[i]? = some (some (.ref a))) (dv : DqA K H (Avs M g σ ρ) vs ds) :
    Rep K M g σ (upd H a (.lst vs)) (ρ.set i (some (.lst ds))) ∧ Own M σ (ρ.set i (some (.lst ds))) = Own M σ ρ ∧ Kp (Own M σ ρ) H (upd H a (.lst vs)) := by
  obtain ⟨a', ws, row, rfl, h3, h4, h5, h6⟩ := R.own i d0 hi e1
  rw [hs] at h3
  cases h3
  have ow : Own M σ (ρ.set i (some (.lst ds))) = Own M σ ρ := own_set e1
  have av : Avs M g σ (ρ.set i (some (.lst ds))) = Avs M g σ ρ := Avs.eq ow
  have hown : Own M σ ρ a := ⟨i, hi, ⟨_, e1⟩, hs⟩
  have kp : Kp (fun b => b = a) H (upd H a (.lst vs)) := Kp.lst rfl ⟨ws, h4⟩
  have hkA : ∀ b, b = a → Avs M g σ ρ b := fun b q => by rw [q]; exact .inr hown
  have hlt : i < ρ.length := (List.getElem?_eq_some_iff.mp e1).1
  refine ⟨?_, ow, kp.mono fun b q => by rw [q]; exact hown⟩
  exact {
    len := by rw [List.length_set]; exact R.len
    imm := fun j d hj hd => by
      have hne : i ≠ j := fun q => hj (q ▸ hi)
      rw [List.getElem?_set_ne hne] at hd
      obtain ⟨v, k1, k2⟩ := R.imm j d hj hd
      exact ⟨v, k1, by rw [av]; exact Dq.kp kp hkA (fun _ _ z => z) d k2⟩
    own := fun j d hj hd => by
      by_cases hij : i = j
      · subst hij
        rw [List.getElem?_set_self hlt] at hd
        cases hd
        exact ⟨a, vs, ds, rfl, hs, upd_same, by rw [av]; exact DqA.kp kp hkA (fun _ _ z => z) _ dv, h6⟩
      · rw [List.getElem?_set_ne hij] at hd
        obtain ⟨b, us, es', k0, k1, k2, k3, k4⟩ := R.own j d hj hd
        have hba : b ≠ a := fun q => hij (R.dis i j a hi hj ⟨⟨_, e1⟩, hs⟩ ⟨⟨_, hd⟩, q ▸ k1⟩)
        exact ⟨b, us, es', k0, k1, kp b _ k2 (.inl hba), by rw [av]; exact DqA.kp kp hkA (fun _ _ z => z) _ k3, k4⟩
    dis := fun j j' b hj hj' o1 o2 => by
      have back : ∀ {j}, OwnAt σ (ρ.set i (some (.lst ds))) j b → OwnAt σ ρ j b := fun {j} ⟨⟨d, hd⟩, hs⟩ => by
        by_cases hij : i = j
        · subst hij
          exact ⟨⟨_, e1⟩, hs⟩
        · rw [List.getElem?_set_ne hij] at hd
          exact ⟨⟨d, hd⟩, hs⟩
      exact R.dis j j' b hj hj' (back o1) (back o2)
    ex := fun b o hb hn => by
      have h7 := R.ex b o hb hn
      by_cases hba : b = a
      · subst hba
        rw [h4] at h7
        cases h7
        rcases h6 with h6 | ⟨h6, _⟩
        · rw [hb] at h6; cases h6
        · rcases hn with hn | hn
          · exact (hn h6).elim
          · exact (hn _ rfl).elim
      · exact kp b o h7 (.inl hba)
    dom := fun b hb => by
      have h7 := R.dom b hb
      by_cases hba : b = a
      · rw [hba, upd_same]
        exact fun z => by cases z
      · rw [upd_ne hba]
        exact h7
    row := R.row }
end
theorem s_set {i : Nat} {x : Str} {e : Expr} {te : TE} {f : FE} {pos pos' : Pos} (hN : X.N.Nodup) (hi : X.N[i]? = some x) (hx : Loc X.env.scope x) (hm : i ∉ M) (h : EvD K M W X .c pu e te f) (hs : swapsWith e (some (.Name x pos')) pos.line X.env = pure false := by rfl) (hf : X.fn x = true ∨ X.env.scope.names.lookup x = some .local := by first | exact .inl rfl | exact .inr rfl | assumption) :
    EvS K M W X (.Assign [.Name x pos'] e pos) (tAsg te (gName i)) (sSet i f) := by
  refine ⟨ps_set hN hi hx h.pe hs hf, fun g σ H ρ E R q => ?_⟩
  exact useS h.so R q fun d ρ1 v H1 _ R1 w1 dv h1 => h1 _ H1 (R1.set hm dv) (w1.frm.trans (Frm.same (own_imm hm)))
theorem so_setL {i : Nat} {e : Expr} {te : TE} {f : FA} (hm : i ∈ M) (hi0 : i ≠ 0) (h : EvL K M W X pu e te f) : SoundS K M W (tAsg te (gName i)) (sSetL i f) := fun g σ H ρ E R q => by
  refine useL h R q fun ds ρ1 p H1 vs e R1 w1 np dv h1 => ?_
  by_cases hl : i < ρ1.length
  · rw [if_pos hl] at h1
    obtain ⟨R2, av⟩ := R1.setOwn hm hi0 hl np dv
    exact h1 _ _ R2 (w1.frm.trans fun G m z => m _ _ (fun _ => False) _ _ z (Ex.new np).kp (fun _ z => z.elim) av)
  · rw [if_neg hl] at h1
    exact h1.elim
theorem s_setL {i : Nat} {x : Str} {e : Expr} {te : TE} {f : FA} {pos pos' : Pos} (hN : X.N.Nodup) (hi : X.N[i]? = some x) (hx : Loc X.env.scope x) (hm : i ∈ M) (hi0 : i ≠ 0) (h : EvL K M W X pu e te f) (hs : swapsWith e (some (.Name x pos')) pos.line X.env = pure false := by rfl) (hf : X.fn x = true ∨ X.env.scope.names.lookup x = some .local := by first | exact .inl rfl | exact .inr rfl | assumption) :
    EvS K M W X (.Assign [.Name x pos'] e pos) (tAsg te (gName i)) (sSetL i f) := ⟨ps_set hN hi hx h.pe hs hf, so_setL hm hi0 h⟩
/-- x = [elt for ..], x a plain local -/
theorem s_setC {i : Nat} {y : Str} {py : Pos} {elt tg iter : Expr} {ifs : List Expr} {scope : Scope} {own : List (Str × Nat)} {pos spos : Pos} {wi : TI} {gt : TG} {tt : TT} {te : TE} {fi : FA} {fg : FG} {fc : FT} {fe : FE} {ts : List Nat}
    (hm : i ∉ M) (hy : X.N[i]? = some y) (hyl : X.env.scope.names.lookup y = some .local) (hsw : swapsWith (.ListComp elt [⟨tg, iter, ifs, 0⟩] scope pos) (some (.Name y py)) spos.line X.env = pure true)
    (hc : X.calm = true) (hN : X.N.Nodup) (hi : EvI K M W X kp pu tg iter wi fi) (ok : BlkOk X.N X.env.scope scope own) (hv : ∀ i ∈ own.map (·.2), i ∉ M) (hts : ∀ i ∈ ts, i ∈ own.map (·.2))
    (hg : ∀ (s : Shared) (H : Hp) (C : Addr) (cl : List (Str × Addr)) (fp : List Addr), EvG K M (X.blk s H scope (compEnvC scope cl C X.env) fp) ts tg gt fg)
    (ht : ∀ (s : Shared) (H : Hp) (C : Addr) (cl : List (Str × Addr)) (fp : List Addr), EvTs K M W0 (X.blk s H scope (compEnvC scope cl C X.env) fp) true ifs tt fc)
    (he : ∀ (s : Shared) (H : Hp) (C : Addr) (cl : List (Str × Addr)) (fp : List Addr), EvD K M W0 (X.blk s H scope (compEnvC scope cl C X.env) fp) .c true elt te fe) (hs : ∀ x, foldedSetIterable iter X.env x = pure x := by intro _; rfl) :
    EvS K M W X (.Assign [.Name y py] (.ListComp elt [⟨tg, iter, ifs, 0⟩] scope pos) spos) (tAsg (tLc wi gt tt te (own.map (·.2))) (gName i)) (sSet i (fOfL (fComp (own.map (·.2)) fi fg fc fe))) := by
  refine ⟨ps_setLc hc hN hy hyl hsw hi.pi ok (fun s H C cl fp => (hg s H C cl fp).pg) (fun s H C cl fp => (ht s H C cl fp).pe) (fun s H C cl fp => (he s H C cl fp).pe) hs, fun g σ H ρ E R q => ?_⟩
  have h := ev_ofL (el_comp (W := W) (pos := pos) hc hN hi ok hv hts hg ht he hs)
  exact useS h.so R q fun d ρ1 v H1 _ R1 w1 dv h1 => h1 _ H1 (R1.set hm dv) (w1.frm.trans (Frm.same (own_imm hm)))
theorem s_setCT {i : Nat} {y : Str} {py : Pos} {elt tg iter : Expr} {scope : Scope} {own : List (Str × Nat)} {pos spos : Pos} {wi : TI} {gt : TG} {te : TE} {fi : FA} {fg : FG} {fe : FE} {ts : List Nat}
    (hm : i ∉ M) (hy : X.N[i]? = some y) (hyl : X.env.scope.names.lookup y = some .local) (hsw : swapsWith (.ListComp elt [⟨tg, iter, [], 0⟩] scope pos) (some (.Name y py)) spos.line X.env = pure true)
    (hc : X.calm = true) (hN : X.N.Nodup) (hi : EvI K M W X true pu tg iter wi fi) (ok : BlkOk X.N X.env.scope scope own) (hv : ∀ i ∈ own.map (·.2), i ∉ M) (hts : ∀ i ∈ ts, i ∈ own.map (·.2))
    (hg : ∀ (s : Shared) (H : Hp) (C : Addr) (cl : List (Str × Addr)) (fp : List Addr), EvG K M (X.blk s H scope (compEnvC scope cl C X.env) fp) ts tg gt fg)
    (he : ∀ (s : Shared) (H : Hp) (C : Addr) (cl : List (Str × Addr)) (fp : List Addr), EvD K M W0 (X.blk s H scope (compEnvC scope cl C X.env) fp) .c pu2 elt te fe) (hs : ∀ x, foldedSetIterable iter X.env x = pure x := by intro _; rfl) :
    EvS K M W X (.Assign [.Name y py] (.ListComp elt [⟨tg, iter, [], 0⟩] scope pos) spos) (tAsg (tLc wi gt tYes te (own.map (·.2))) (gName i)) (sSet i (fOfL (fCompT (own.map (·.2)) M fi fg fe))) := by
  refine ⟨ps_setLc hc hN hy hyl hsw hi.pi ok (fun s H C cl fp => (hg s H C cl fp).pg) (fun s H C cl fp => pts_nil) (fun s H C cl fp => (he s H C cl fp).pe) hs, fun g σ H ρ E R q => ?_⟩
  have h := ev_ofL (el_compT (W := W) (pos := pos) hc hN hi ok hv hts hg he hs)
  exact useS h.so R q fun d ρ1 v H1 _ R1 w1 dv h1 => h1 _ H1 (R1.set hm dv) (w1.frm.trans (Frm.same (own_imm hm)))
/-- a, b = e and its like -/
theorem s_asg {tg e : Expr} {te : TE} {gt : TG} {f : FE} {fg : FG} {ts : List Nat} {pos : Pos} (h : EvD K M W X .c pu e te f) (hg : EvG K M X ts tg gt fg) (hs : swapsWithSole [tg] e pos.line X.env = pure false := by rfl) (hw : swappedStores [tg] e X.env = pure none := by rfl)
    (h1 : (assignEach [tg] X.env).map (·.2) = [assign tg X.env] := by rfl) : EvS K M W X (.Assign [tg] e pos) (tAsg te gt) (sAsg f fg) := by
  refine ⟨ps_asg h.pe hg.pg hs hw h1, fun g σ H ρ E R q => ?_⟩
  refine useS h.so R q fun d ρ1 v H1 _ R1 w1 dv h1 => ?_
  refine hg.so g σ H1 ρ1 v d _ R1 dv ?_
  cases e2 : fg d ρ1 with
  | none => simp only [e2] at h1; exact h1.elim
  | some ρ2 =>
    simp only [e2] at h1
    exact fun σ2 R2 ow _ => h1 σ2 H1 R2 (w1.frm.trans (Frm.same ow))
/-- a, b = e, f -/
theorem s_par {i j : Nat} {x y : Str} {a b : Expr} {ta tb : TE} {fa fb : FE} {px py pt : Pos} {kt k2 pt2} {pos : Pos} (hc : X.calm = true) (hN : X.N.Nodup) (hi : X.N[i]? = some x) (hj : X.N[j]? = some y) (hij : i ≠ j)
    (hx : X.env.scope.names.lookup x = some .local) (hy : X.env.scope.names.lookup y = some .local) (hmi : i ∉ M) (hmj : j ∉ M) (ha : EvD K M W X .c pu1 a ta fa) (hb : EvD K M W X .c pu2 b tb fb)
    (hw : swappedStores [.Tuple [.Name x px, .Name y py] kt pt] (.Tuple [a, b] k2 pt2) X.env = pure (some [x, y]))
    (hs1 : starEach [a, b] X.env = (false, eval a X.env) :: starEach [b] X.env := by rfl) (hs2 : starEach [b] X.env = (false, eval b X.env) :: starEach [] X.env := by rfl)
    (hs : swapsWithSole [.Tuple [.Name x px, .Name y py] kt pt] (.Tuple [a, b] k2 pt2) pos.line X.env = pure false := by rfl) :
    EvS K M W X (.Assign [.Tuple [.Name x px, .Name y py] kt pt] (.Tuple [a, b] k2 pt2) pos) (tPar i j (tCons ta (tCons tb tNil))) (sPar i j fa fb) := by
  refine ⟨ps_par hc hN hi hj hij hx hy (pa_cons ha.pe (pa_cons hb.pe pa_nil hs2) hs1) hw hs, fun g σ H ρ E R q => ?_⟩
  refine useS ha.so R q fun d ρ1 v H1 _ R1 w1 dv h1 => ?_
  refine useS hb.so R1 h1 fun e ρ2 w H2 _ R2 w2 dw h2 => ?_
  have dv : Dq K H2 (Avs M g σ ρ2) v d := (show Dv K M g σ H1 ρ1 .c v d from dv).gone w2 (.inl rfl)
  have dw : Dq K H2 (Avs M g σ ρ2) w e := dw
  have o1 : Own M (σ.set i (some v)) (ρ2.set i (some d)) = Own M σ ρ2 := own_imm hmi
  refine ⟨v, w, rfl, h2 _ H2 ((R2.set hmi dv).set hmj (by rw [Avs.eq' o1]; exact dw)) (((w1.trans w2).frm).trans (Frm.same ((own_imm hmj).trans o1)))⟩
/-- a, b = [..], f: a a slot's own list -/
theorem s_parL {i j : Nat} {x y : Str} {a b : Expr} {ta tb : TE} {fa : FA} {fb : FE} {px py pt : Pos} {kt k2 pt2} {pos : Pos} (hc : X.calm = true) (hN : X.N.Nodup) (hi : X.N[i]? = some x) (hj : X.N[j]? = some y) (hij : i ≠ j)
    (hx : X.env.scope.names.lookup x = some .local) (hy : X.env.scope.names.lookup y = some .local) (hmi : i ∈ M) (hi0 : i ≠ 0) (hmj : j ∉ M) (ha : EvL K M W X pu1 a ta fa) (hb : EvD K M W X .c true b tb fb)
    (hw : swappedStores [.Tuple [.Name x px, .Name y py] kt pt] (.Tuple [a, b] k2 pt2) X.env = pure (some [x, y]))
    (hs1 : starEach [a, b] X.env = (false, eval a X.env) :: starEach [b] X.env := by rfl) (hs2 : starEach [b] X.env = (false, eval b X.env) :: starEach [] X.env := by rfl)
    (hs : swapsWithSole [.Tuple [.Name x px, .Name y py] kt pt] (.Tuple [a, b] k2 pt2) pos.line X.env = pure false := by rfl) :
    EvS K M W X (.Assign [.Tuple [.Name x px, .Name y py] kt pt] (.Tuple [a, b] k2 pt2) pos) (tPar i j (tCons ta (tCons tb tNil))) (sParL i j fa fb) := by
  refine ⟨ps_par hc hN hi hj hij hx hy (pa_cons ha.pe (pa_cons hb.pe pa_nil hs2) hs1) hw hs, fun g σ H ρ E R q => ?_⟩
  refine useL ha R q fun ds ρ1 p H1 vs e R1 w1 np dv h1 => ?_
  have ex := Ex.new (o := .lst vs) np
  -- b is reckoned while the new list stands there, held by g.with_
  have hD0 : g.H0 p = none := h0_none R1 np
  have nown : ¬ Own M σ ρ1 p := fun z => R1.avs p (.inr z) np
  have R1w : Rep K M (g.with_ p) σ (upd H1 p (.lst vs)) ρ1 := by
    have h := (R1.toWith np).atD (ys := vs) (by exact nown) upd_same
    rw [upd_upd] at h
    exact h
  refine hb.so (g.with_ p) σ _ ρ1 _ R1w ?_
  cases e2 : fb ρ1 with
  | bad => rw [e2] at h1; exact h1
  | exc z ρ' => rw [e2] at h1; exact h1.elim
  | ok ee ρ2 =>
    rw [e2] at h1
    intro w H2 R2 ow2 k2 p2 dw
    obtain ⟨rfl, ex2⟩ := p2 rfl
    have h1 : PostS K M W g σ H ρ E (if i < ρ2.length then .nx ((ρ2.set i (some (.lst ds))).set j (some ee)) else .bad) := h1
    by_cases hl : i < ρ2.length
    · rw [if_pos hl] at h1
      have hp2 : H2 p = some (.lst vs) := ex2 _ _ upd_same
      have R3 : Rep K M g σ (delH H2 p) ρ2 := R2.outOf nown hD0 hp2
      have fresh : ∀ a, H1 a ≠ none → Avs M (g.with_ p) σ ρ2 a → Avs M g σ ρ2 a := fun a ha z => (avs_with.mp z).resolve_right fun y => ha (by rw [y]; exact np)
      have dq : DqA K (delH H2 p) (Avs M g σ ρ2) vs ds := by
        have h5 : DqA K (upd H1 p (.lst vs)) (Avs M (g.with_ p) σ ρ2) vs ds := DqA.kp (B := fun _ => False) ex.kp (fun _ z => z.elim) fresh _ dv
        exact DqA.kp (kp_del hp2) (fun a z => avs_with.mpr (.inr z)) (fun a _ z => avs_with.mpr (.inl z)) _ (h5.ex ex2)
      obtain ⟨R4, av⟩ := R3.setOwn hmi hi0 hl delH_same dq
      rw [delH_upd hp2] at R4
      refine ⟨.ref p, w, rfl, ?_⟩
      have back : ∀ a, H2 a ≠ none → Avs M g (σ.set i (some (.ref p))) (ρ2.set i (some (.lst ds))) a → Avs M (g.with_ p) σ ρ2 a := fun a ha z => by
        by_cases hap : a = p
        · exact avs_with.mpr (.inr hap)
        · exact avs_with.mpr (.inl (av a (by rw [delH_ne hap]; exact ha) z))
      have dw2 : Dq K H2 (Avs M g (σ.set i (some (.ref p))) (ρ2.set i (some (.lst ds)))) w ee := Dq.anti (show Dq K H2 (Avs M (g.with_ p) σ ρ2) w ee from dw) back
      refine h1 _ H2 (R4.set hmj dw2) (w1.frm.trans ?_)
      intro G m z
      have z1 : G (Avs M (g.with_ p) σ ρ2) (upd H1 p (.lst vs)) := m _ _ (fun _ => False) _ _ z ex.kp (fun _ z => z.elim) fresh
      have z2 : G (Avs M (g.with_ p) σ ρ2) H2 := m _ _ (fun _ => False) _ _ z1 ex2.kp (fun _ z => z.elim) fun _ _ y => y
      rw [Avs.eq' (own_imm hmj)]
      exact m _ _ (fun _ => False) _ _ z2 (Kp.refl H2) (fun _ z => z.elim) back
    · rw [if_neg hl] at h1
      exact h1.elim
theorem s_aug {op : Int → Int → Int} {o : Operator} {i : Nat} {x : Str} {e : Expr} {te : TE} {f : FE} {pos pos' : Pos} (ho : PIp X o (ipI op)) (hN : X.N.Nodup) (hi : X.N[i]? = some x) (hx : Loc X.env.scope x) (hm : i ∉ M) (h : EvD K M W X lv pu e te f) (hf : X.fn x = true ∨ X.env.scope.names.lookup x = some .local := by first | exact .inl rfl | exact .inr rfl | assumption) :
    EvS K M W X (.AugAssign (.Name x pos') o e pos) (tAug i te (ipI op)) (sAug op i f) := by
  refine ⟨ps_aug hN hi hx h.pe ho hf, fun g σ H ρ E R q => ?_⟩
  unfold sAug at q
  split at q
  · rename_i k e0
    obtain ⟨v, h1, h2⟩ := R.imm i _ hm e0
    cases h2
    refine ⟨_, h1, ?_⟩
    refine useS h.so R q fun d ρ1 w H1 _ R1 w1 dv q1 => ?_
    have du := (show Dv K M g σ H1 ρ1 lv w d from dv).u
    cases du with
    | int n => exact ⟨k, n, rfl, rfl, q1 _ H1 (R1.set hm (.int _)) (w1.frm.trans (Frm.same (own_imm hm)))⟩
    | _ => exact q1.elim
  · exact q.elim
end
end DL

namespace DL
open PySem PySem.Spec PyProof.Rows L2
section
variable {K : PySem.W.Frag} {M : List Nat} {W : WX} {X : Cx} {pu pu1 pu2 kp : Bool} {lv l1 l2 : Lv}
/-- x[k] = e, x a slot's own list -/
theorem s_setIx {i : Nat} {x : Str} {e k : Expr} {te tk : TE} {fe fk : FE} {px p2 pos : Pos} (hN : X.N[i]? = some x) (hv : Vis X.env.scope x) (hi : i ∈ M) (he : EvD K M W X .c pu1 e te fe) (hk : EvD K M W X l2 pu2 k tk fk) (hd : (x == ("__debug__" : Str)) = false := by decide) (hcd : (x == ("__classdict__" : Str)) = false := by decide)
    (hs : swapsWithSole [.Subscript (.Name x px) k p2] e pos.line X.env = pure false := by rfl) (hw : swappedStores [.Subscript (.Name x px) k p2] e X.env = pure none := by rfl)
    (h1 : (assignEach [.Subscript (.Name x px) k p2] X.env).map (·.2) = [assign (.Subscript (.Name x px) k p2) X.env] := by rfl)
    (ha : ∀ v, assign (.Subscript (.Name x px) k p2) X.env v = (do
      let ov ← holding [v] (eval (.Name x px) X.env)
      let iv ← holding [v, ov] (eval k X.env)
      standAt p2
      holding [v, ov, iv] (setItem ov iv v)
      release [v, ov, iv] []) := by intro _; rfl) :
    EvS K M W X (.Assign [.Subscript (.Name x px) k p2] e pos) (tAsg te (gSub (tVar i) tk rSetL)) (sSetIx i fk fe) := by
  refine ⟨ps_asg he.pe (pg_sub (pe_var hN hv hd hcd) hk.pe set_list ha) hs hw h1, fun g σ H ρ E R q => ?_⟩
  refine useS he.so R q fun d ρ1 v H1 _ R1 w1 dv q1 => ?_
  split at q1
  · rename_i d0 e0
    obtain ⟨a, _, _, _, hσ, _⟩ := R1.own i d0 hi e0
    refine ⟨.ref a, hσ, ?_⟩
    refine useS hk.so R1 q1 fun n ρ2 w H2 _ R2 w2 dw q2 => ?_
    have du := (show Dv K M g σ H2 ρ2 l2 w n from dw).u
    split at q2
    · rename_i ds e2
      obtain ⟨a', vs, ds', h0, h3, h4, h5, _⟩ := R2.own i _ hi e2
      cases h0
      rw [hσ] at h3
      cases h3
      cases du with
      | int m =>
        simp only at q2
        split at q2
        · rename_i j hj
          have dv2 : Dq K H2 (Avs M g σ ρ2) v d := (show Dv K M g σ H1 ρ1 .c v d from dv).gone w2 (.inl rfl)
          obtain ⟨R3, ow3, k3⟩ := R2.chg hi e2 hσ (h5.set j dv2)
          refine ⟨a, vs, m, j, rfl, rfl, h4, by rw [h5.length]; exact hj, q2 σ _ R3 ?_⟩
          refine ((w1.trans w2).frm).trans fun G mm z => ?_
          rw [Avs.eq ow3]
          exact mm _ _ _ _ _ z k3 (fun c z => .inr z) fun _ _ z => z
        · exact q2.elim
      | _ => exact q2.elim
    · exact q2.elim
  · exact q1.elim
/-- x.append(e), x a slot's own list -/
theorem s_app {i : Nat} {x : Str} {e : Expr} {te : TE} {fe : FE} {px apos cpos pos : Pos} (hK : X.K = K) (hN : X.N[i]? = some x) (hv : Vis X.env.scope x) (hi : i ∈ M) (he : EvD K M W X .c pu1 e te fe) (hd : (x == ("__debug__" : Str)) = false := by decide) (hcd : (x == ("__classdict__" : Str)) = false := by decide)
    (hbase : attributeBase (.Name x px) "append" X.env (eval (.Name x px) X.env) = eval (.Name x px) X.env := by rfl)
    (hfew : ((backTo cpos (starEach [e] X.env)).all (fun x => !x.1) && (backToKw cpos (keywordEach [] X.env)).all (fun x => x.1.isSome)
      && decide ([e].length + ([] : List Keyword).length + (if ([] : List Keyword).isEmpty then 0 else 1) < 30)) = true := by rfl)
    (hline : (apos.endLine == cpos.line) = true := by rfl) (hs : starEach [e] X.env = (false, eval e X.env) :: starEach [] X.env := by rfl) (hplain : (backTo cpos (starEach [] X.env)).any (·.1) = false := by rfl)
    (hsw : swapsWith (.Call (.Attribute (.Name x px) "append" apos) [e] [] cpos) none pos.line X.env = pure false := by rfl) :
    EvS K M W X (.Expr (.Call (.Attribute (.Name x px) "append" apos) [e] [] cpos) pos) (tDrop (tBM K "list" rAppend (tVar i) (tCons te tNil))) (sApp i fe) := by
  subst hK
  refine ⟨ps_expr (pe_bm PySem.F.plainAttrs_list PySem.F.slot_list_append PySem.F.type_list_append mt_append (pe_var hN hv hd hcd) (pa_cons he.pe pa_nil hs) hbase hfew hline hs hplain) hsw, fun g σ H ρ E R q => ?_⟩
  unfold sApp at q
  split at q
  · rename_i d0 e0
    obtain ⟨a, us, _, _, hσ, hH, _⟩ := R.own i d0 hi e0
    refine ⟨.ref a, hσ, .inl ⟨rfl, us, .inl (.inl hH)⟩, ?_⟩
    refine useS he.so R q fun d ρ1 v H1 _ R1 w1 dv q1 => ?_
    split at q1
    · rename_i ds e1
      split at q1
      · rename_i hlt
        obtain ⟨a', vs, ds', h0, h3, h4, h5, _⟩ := R1.own i _ hi e1
        cases h0
        rw [hσ] at h3
        cases h3
        have dv2 : Dq X.K H1 (Avs M g σ ρ1) v d := dv
        obtain ⟨R3, ow3, k3⟩ := R1.chg hi e1 hσ (h5.append (.cons dv2 .nil))
        refine ⟨a, vs, v, rfl, rfl, h4, lim_lt (by rw [h5.length]; exact hlt), q1 σ _ R3 ?_⟩
        refine w1.frm.trans fun G mm z => ?_
        rw [Avs.eq ow3]
        exact mm _ _ _ _ _ z k3 (fun c z => .inr z) fun _ _ z => z
      · exact q1.elim
    · exact q1.elim
  · exact q.elim
theorem PostS.base {g : Gh} {σ σ1 : L2.St} {H H1 : Hp} {ρ ρ1 : Rho} {E : Ends} {o : SO} (f : Frm M g σ H ρ σ1 H1 ρ1) (h : PostS K M W g σ H ρ E o) : PostS K M W g σ1 H1 ρ1 E o := by
  cases o with
  | nx ρ2 => exact fun σ2 H2 R2 f2 => h σ2 H2 R2 (f.trans f2)
  | bk ρ2 => exact fun σ2 H2 R2 f2 => h σ2 H2 R2 (f.trans f2)
  | ct ρ2 => exact fun σ2 H2 R2 f2 => h σ2 H2 R2 (f.trans f2)
  | ret d ρ2 => exact h
  | exc x ρ2 => exact h
  | bad => exact h
theorem s_for {tg iter : Expr} {body : List Stmt} {wi : TI} {gt : TG} {tb : TS} {fi : FA} {fg : FG} {F : FS} {ts : List Nat} {pos : Pos} (hp : PassesOwn (model X.prog X.w) X.A X.env X.xe) (hc : X.calm = true) (hi : EvI K M W X true pu tg iter wi fi) (hg : EvG K M X ts tg gt fg) (hb : EvSs K M W X body tb F)
    (hs : ∀ x, foldedSetIterable iter X.env x = pure x := by intro _; rfl) : EvS K M W X (.For tg iter body [] pos) (tFor wi gt tb) (sFor fi fg F) := by
  refine ⟨ps_for hp hc hi.pi hg.pg hb.ps hs, fun g σ H ρ E R q => ?_⟩
  unfold sFor at q
  refine hi.so g σ H ρ _ R ?_
  cases e0 : fi ρ with
  | bad => rw [e0] at q; exact q
  | exc x ρ' =>
    rw [e0] at q
    exact fun c dd H' r xr => q c dd σ H' r xr
  | ok ds ρ1 =>
    rw [e0] at q
    have q : PostS K M W g σ H ρ E (loopF fg F ds ρ1) := q
    refine fun J G okp H1 R1 w1 ip hok hG => ?_
    have hok := hok rfl
    have mg : MonoG G := fun B B' C H H' h k hc hb => ip.mono B B' C H H' h k (fun c z => ⟨hc c z, hok c⟩) hb
    refine for_it (w := ip.walk) (fun i σ' H' => ∃ ρi, Rep K M g σ' H' ρi ∧ G (Avs M g σ' ρi) H' ∧ PostS K M W g σ' H' ρi E (loopF fg F (ds.drop i) ρi)) ⟨ρ1, R1, hG, q.base w1.frm⟩ (fun i σ H _ ⟨_, _, h, _⟩ => ⟨_, h⟩) ?_ ?_
    · rintro i x σ2 H2 H3 hi' ⟨ρi, R2, hG2, q2⟩ ⟨ex3, d, hd, hdq⟩
      have hdrop : ds.drop i = d :: ds.drop (i + 1) := by
        obtain ⟨hlt, e⟩ := List.getElem?_eq_some_iff.mp hd
        rw [List.drop_eq_getElem_cons hlt, e]
      rw [hdrop] at q2
      unfold loopF at q2
      refine hg.so g σ2 H3 ρi x d _ (R2.kpH ex3) (hdq _ hG2) ?_
      cases et : fg d ρi with
      | none => simp only [et] at q2; exact q2.elim
      | some ρt =>
        simp only [et] at q2
        refine fun σ3 R3 ow3 _ => ?_
        have f3 : Frm M g σ2 H2 ρi σ3 H3 ρt := fun G mm z => by
          rw [Avs.eq' ow3]
          exact mm _ _ (fun _ => False) _ _ z ex3.kp (fun _ z => z.elim) fun _ _ z => z
        have hG3 : G (Avs M g σ3 ρt) H3 := f3 G mg hG2
        refine hb.so g σ3 H3 ρt _ R3 ?_
        cases eb : F ρt with
        | nx ρ' =>
          simp only [eb] at q2
          exact fun σ4 H4 R4 f4 => ⟨ρ', R4, f4 G mg hG3, q2.base (f3.trans f4)⟩
        | ct ρ' =>
          simp only [eb] at q2
          exact fun σ4 H4 R4 f4 => ⟨ρ', R4, f4 G mg hG3, q2.base (f3.trans f4)⟩
        | bk ρ' =>
          simp only [eb] at q2
          exact fun σ4 H4 R4 f4 => q2 σ4 H4 R4 (f3.trans f4)
        | ret d ρ' =>
          simp only [eb] at q2
          exact q2
        | exc y ρ' =>
          simp only [eb] at q2
          exact q2
        | bad =>
          simp only [eb] at q2
          exact q2
    · rintro σ2 H2 ⟨ρi, R2, _, q2⟩
      rw [List.drop_length] at q2
      exact q2 σ2 H2 R2 Frm.refl
theorem s_while {c : Expr} {body : List Stmt} {tc : TT} {tb : TS} {fc : FT} {F : FS} {pos : Pos} (hp : PassesOwn (model X.prog X.w) X.A X.env X.xe) (hc : EvT K M W X pu c tc fc) (hb : EvSs K M W X body tb F) : EvS K M W X (.While c body [] pos) (tWhile tc tb) (sWhile fc F) := by
  refine ⟨ps_while hp hc.pe hb.ps, fun g σ H ρ E R q => ?_⟩
  unfold sWhile at q
  generalize fuel = n at q
  refine ⟨fun m σ' H' => ∃ ρi, Rep K M g σ' H' ρi ∧ PostS K M W g σ' H' ρi E (whileF fc F m ρi), ⟨n, ρ, R, q⟩, ?_⟩
  rintro m σ2 H2 ⟨ρi, R2, q2⟩
  cases m with
  | zero => exact q2.elim
  | succ m =>
    unfold whileF at q2
    refine useS hc.so R2 q2 fun d ρ3 v H3 _ R3 w3 dv q3 => ?_
    cases (show v = d from dv)
    cases d with
    | false =>
      rw [if_neg (by decide)] at q3 ⊢
      exact q3 σ2 H3 R3 w3.frm
    | true =>
      rw [if_pos rfl] at q3 ⊢
      refine ⟨fun σ' H' => ∃ ρi, Rep K M g σ' H' ρi ∧ PostS K M W g σ' H' ρi E (whileF fc F m ρi), fun σ' H' h => ⟨m, Nat.lt_succ_self m, h⟩, ?_⟩
      refine hb.so g σ2 H3 ρ3 _ R3 ?_
      cases eb : F ρ3 with
      | nx ρ' =>
        simp only [eb] at q3
        exact fun σ4 H4 R4 f4 => ⟨ρ', R4, q3.base (w3.frm.trans f4)⟩
      | ct ρ' =>
        simp only [eb] at q3
        exact fun σ4 H4 R4 f4 => ⟨ρ', R4, q3.base (w3.frm.trans f4)⟩
      | bk ρ' =>
        simp only [eb] at q3
        exact fun σ4 H4 R4 f4 => q3 σ4 H4 R4 (w3.frm.trans f4)
      | ret d ρ' =>
        simp only [eb] at q3
        exact q3
      | exc y ρ' =>
        simp only [eb] at q3
        exact q3
      | bad =>
        simp only [eb] at q3
        exact q3
end

/-! ### a def's promise by its body -/
def start0 (N : Nat) (ds : List D) : Rho := ds.map some ++ List.replicate (N - ds.length) none
def runF (F : FS) (N n : Nat) (ds : List D) : Res := if ds.length = n then match F (start0 N ds) with
  | .ret d _ => .ok d
  | .nx _ => .ok .non
  | .exc x _ => .exc x
  | _ => .bad else .bad
def runR (F : FS) (N n : Nat) (row ds : List D) : ResR := if ds.length = n then match F (start0 N (.lst row :: ds)) with
  | .ret d r => match (r[0]? : Option (Option D)) with
    | some (some (D.lst row')) => .ok d row'
    | _ => .bad
  | _ => .bad else .bad
section
variable {K : PySem.W.Frag} {M : List Nat} {H : Hp} {A : Addr → Prop}
theorem start_get {α : Type} (xs : List α) (N i : Nat) (d : α) (h : (xs.map some ++ List.replicate N (none : Option α))[i]? = some (some d)) : xs[i]? = some d := by
  by_cases hi : i < xs.length
  · rw [List.getElem?_append_left (by simpa using hi), List.getElem?_map] at h
    cases e : xs[i]? with
    | none => rw [e] at h; cases h
    | some a =>
      rw [e] at h
      cases h
      rfl
  · rw [List.getElem?_append_right (by simpa using hi), List.getElem?_replicate] at h
    split at h <;> cases h
theorem start_at {α : Type} (xs : List α) (N i : Nat) (d : α) (h : xs[i]? = some d) : (xs.map some ++ List.replicate N (none : Option α))[i]? = some (some d) := by
  obtain ⟨hi, _⟩ := List.getElem?_eq_some_iff.mp h
  rw [List.getElem?_append_left (by simpa using hi), List.getElem?_map, h]
  rfl
theorem rep_start {N : List Str} {ds : List D} {vs : List V} (hA : ∀ a, A a → H a ≠ none) (hm : ∀ i ∈ M, ds.length ≤ i) (h : DqA K H A vs ds) : Rep K M ⟨A, fun _ => False, H, hA, none⟩ (L2.start N vs) H (start0 N.length ds) where
  len := by
    unfold L2.start start0
    rw [List.length_append, List.length_append, List.length_map, List.length_map, List.length_replicate, List.length_replicate, h.length]
  imm := fun i d hi hd => by
    obtain ⟨v, h1, h2⟩ := h.get (start_get _ _ _ _ hd)
    refine ⟨v, start_at _ _ _ _ h1, h2.anti fun a _ z => z.resolve_right fun ⟨j, hj, ⟨e, he⟩, _⟩ => ?_⟩
    have := start_get _ _ _ _ he
    have hlt := (List.getElem?_eq_some_iff.mp this).1
    have := hm j hj
    omega
  own := fun i d hi hd => by
    have := start_get _ _ _ _ hd
    have hlt := (List.getElem?_eq_some_iff.mp this).1
    have := hm i hi
    omega
  dis := fun i j a hi _ o _ => by
    obtain ⟨⟨d, hd⟩, _⟩ := o
    have := start_get _ _ _ _ hd
    have hlt := (List.getElem?_eq_some_iff.mp this).1
    have := hm i hi
    omega
  ex := Kp.refl H
  dom := fun _ h => h
  row := fun _ z => by cases z
/-- the reading of a body that SoundS tells of -/
theorem fn_end {N : List Str} {n : Nat} {t : TS} {F : FS} {E : XK} {Q : VK} {vs : List V} (so : SoundS K M (fun c d _ H => E c d H) t F) (hm : ∀ i ∈ M, n ≤ i) (h : spF K n (runF F N.length n) vs H Q E) : t { nx := fun _ H' => Q .non H', rt := Q } (L2.start N vs) H := by
  obtain ⟨A, ds, hA, hl, hd, h⟩ := h
  refine so ⟨A, fun _ => False, H, hA, none⟩ _ H _ _ (rep_start hA (fun i hi => by rw [hl]; exact hm i hi) hd) ?_
  unfold runF at h
  rw [if_pos hl] at h
  cases e : F (start0 N.length ds) with
  | nx ρ' =>
    rw [e] at h
    exact fun σ' H' R _ => h .non H' (fun a o q => R.ex a o q (.inl id)) .non
  | ret d ρ' =>
    rw [e] at h
    exact fun v σ' H' R dv => h v H' (fun a o q => R.ex a o q (.inl id)) dv
  | exc x ρ' =>
    rw [e] at h
    exact fun c dd σ' H' R xr => h c dd H' (fun a o q => R.ex a o q (.inl id)) xr
  | bk ρ' => rw [e] at h; exact h.elim
  | ct ρ' => rw [e] at h; exact h.elim
  | bad => rw [e] at h; exact h.elim
theorem row_end {N : List Str} {n : Nat} {t : TS} {F : FS} {E : XK} {Q : VK} {vs : List V} (so : SoundS K M (fun c d _ H => E c d H) t F) (h0 : 0 ∈ M) (hm : ∀ i ∈ M, i = 0 ∨ n + 1 ≤ i) (h : spR K n (runR F N.length n) vs H Q E) : t { nx := fun _ H' => Q .non H', rt := Q } (L2.start N vs) H := by
  obtain ⟨A, a, vs', ws, ds, row, rfl, hA, ha, hH, hrow, hl, hd, h⟩ := h
  have rep : Rep K M ⟨A, fun b => b = a, H, hA, some a⟩ (L2.start N (.ref a :: vs')) H (start0 N.length (.lst row :: ds)) := by
    have own1 : ∀ b, Own M (L2.start N (.ref a :: vs')) (start0 N.length (.lst row :: ds)) b → b = a := fun b ⟨j, hj, ⟨e, he⟩, hs⟩ => by
      have h1 := start_get _ _ _ _ he
      have hlt := (List.getElem?_eq_some_iff.mp h1).1
      rw [List.length_cons, hl] at hlt
      rcases hm j hj with rfl | h2
      · have h3 := start_get _ _ _ _ hs
        simp at h3
        exact h3.symm
      · omega
    have av : ∀ b, H b ≠ none → Avs M ⟨A, fun b => b = a, H, hA, some a⟩ (L2.start N (.ref a :: vs')) (start0 N.length (.lst row :: ds)) b → A b := fun b _ z => by
      rcases z with z | z
      · exact z
      · rw [own1 b z]
        exact ha
    exact {
      len := by
        unfold L2.start start0
        rw [List.length_append, List.length_append, List.length_map, List.length_map, List.length_replicate, List.length_replicate, List.length_cons, List.length_cons, hd.length]
      imm := fun i d hi hd' => by
        have h1 := start_get _ _ _ _ hd'
        cases i with
        | zero => exact (hi h0).elim
        | succ i =>
          obtain ⟨v, h2, h3⟩ := hd.get (i := i) (d := d) (by simpa using h1)
          exact ⟨v, start_at _ _ _ _ (by simpa using h2), h3.anti av⟩
      own := fun i d hi hd' => by
        have h1 := start_get _ _ _ _ hd'
        have hlt := (List.getElem?_eq_some_iff.mp h1).1
        rw [List.length_cons, hl] at hlt
        rcases hm i hi with rfl | h2
        · simp at h1
          subst h1
          exact ⟨a, ws, row, rfl, start_at _ _ _ _ (by simp), hH, hrow.anti av, .inr ⟨rfl, rfl⟩⟩
        · omega
      dis := fun i j b hi hj o1 o2 => by
        have key : ∀ {j}, j ∈ M → OwnAt (L2.start N (.ref a :: vs')) (start0 N.length (.lst row :: ds)) j b → j = 0 := fun {j} hj ⟨⟨e, he⟩, _⟩ => by
          have h1 := start_get _ _ _ _ he
          have hlt := (List.getElem?_eq_some_iff.mp h1).1
          rw [List.length_cons, hl] at hlt
          rcases hm j hj with rfl | h2
          · rfl
          · omega
        rw [key hi o1, key hj o2]
      ex := Kp.refl H
      dom := fun _ h => h
      row := fun b z => by
        cases z
        exact ⟨h0, start_at _ _ _ _ (by simp)⟩ }
  refine so _ _ H _ _ rep ?_
  unfold runR at h
  rw [if_pos hl] at h
  cases e : F (start0 N.length (.lst row :: ds)) with
  | nx ρ' => rw [e] at h; exact h.elim
  | ret d ρ' =>
    rw [e] at h
    simp only at h
    intro v σ' H' R dv
    split at h
    · rename_i d' row' heq
      split at heq
      · rename_i r' e1
        cases heq
        obtain ⟨a', us, es, h1, h2, h3, h4, h5⟩ := R.own 0 _ h0 e1
        cases h1
        obtain ⟨_, h6⟩ := R.row a rfl
        rw [h2] at h6
        cases h6
        exact h v H' us R.ex h3 (h4.anti fun b _ z => .inl z) dv
      · cases heq
    · exact h.elim
  | exc x ρ' => rw [e] at h; exact h.elim
  | bk ρ' => rw [e] at h; exact h.elim
  | ct ρ' => rw [e] at h; exact h.elim
  | bad => rw [e] at h; exact h.elim
end
end DL

namespace DL
open PySem PySem.Spec PyProof.Rows L2

/-! ### enumerate(a text) -/
def Ites (x : Str) : It :=
  ⟨fun i _ => i < x.cps.size, fun i H v H' => ∃ T c, v = .ref T ∧ H T = none ∧ H' = upd H T (.tup [.int (i : Nat), .str ⟨#[c]⟩]) ∧ x.cps[i]? = some c, fun i _ => i = x.cps.size⟩
theorem turn_enumS {P : Program} {w : World} {K : PySem.W.Frag} {elts : List Expr} {kk : Nat} {tpos : Pos} (x : Str) (t : Tok) (ty : String) (hty : ty = "str_ascii_iterator" ∨ ty = "str_iterator") (e it : Addr) :
    Turn P w K (.Tuple elts kk tpos) (Ites x) [e, it] e (fun i h => (∃ old, IsEnum h e it ((i : Nat) : Int) old) ∧ h.IsStrIter it ty x t i ∧ e ≠ it) where
  mem := by simp
  obj := fun i h st b hb => by
    obtain ⟨⟨old, he⟩, ⟨o, ho, hc, hd⟩, _⟩ := st
    have e' : b = e ∨ b = it := by simpa using hb
    rcases e' with z | z
    · rw [z]; exact ⟨_, he, fun v q => nomatch q⟩
    · rw [z]; exact ⟨o, ho, fun v q => by rw [hd] at q; cases q⟩
  keep := fun i h h' st k => let ⟨⟨old, he⟩, ⟨o, ho, r⟩, hne⟩ := st; ⟨⟨old, k e (by simp) _ he⟩, ⟨o, k it (by simp) o ho, r⟩, hne⟩
  item := by
    intro X hP hw hK hc i pins s σ H E I hf st hg
    subst hP hw hK
    obtain ⟨⟨old, he⟩, hit, hne⟩ := st
    have hel : e < s.heap.objs.size := Heap.lt_size he
    have hil : it < s.heap.objs.size := by obtain ⟨_, q, _⟩ := hit; exact Heap.lt_size q
    have hh : X.A.in1.handled = none := I.ok.hd hc
    have Dr : Draws X.prog X.w X.A.in1 it [it] x.cps.size (fun i v => ∃ c u, x.cps[i]? = some c ∧ v = .str ⟨#[c]⟩ u) (fun i h => h.IsStrIter it ty x t i) := by
      rcases hty with q | q
      · rw [q]; exact Draws.strAscii hh it x t
      · rw [q]; exact Draws.strWide hh it x t
    refine wpAny_pyNext_enum_itemD Dr he hit hg hne (by simpa using hne) fun u h' tk ⟨c, tu, hcx, hu⟩ ho hit' hT hsz hk => ?_
    subst hu
    refine ⟨_, rfl, wpAny_letOwnedTupleGo_enum (s := { s with heap := h', toks := tk + 1 }) ho fun h'' he' sb => ?_⟩
    have hT2 : h''.get? s.heap.objs.size = some { cls := .type "tuple", data := .seq #[.int i tk, .str ⟨#[c]⟩ tu] } := (sb.2 _ (Nat.ne_of_gt hel)).trans hT
    have new : ObjOk X.prog X.w (upd H s.heap.objs.size (.tup [.int (i : Nat), .str ⟨#[c]⟩])) h'' s.heap.objs.size (.tup [.int (i : Nat), .str ⟨#[c]⟩]) :=
      ⟨by show 2 ≤ sizeLine; decide, [.int i tk, .str ⟨#[c]⟩ tu], .cons ⟨_, rfl⟩ (.cons ⟨_, rfl⟩ .nil), ⟨_, hT2, rfl, _, rfl⟩⟩
    have I1 : Inv X pins σ (upd H s.heap.objs.size (.tup [.int (i : Nat), .str ⟨#[c]⟩])) { s with heap := h'', toks := tk + 1 } :=
      I.turnedNew (ch := [e, it]) (fun b ob hb q => (sb.2 b (fun z => hb (by simp [z]))).trans (hk b ob (fun z => hb (by simp [z])) (fun z => hb (by simp [z])) q)) hf (Nat.le_refl _) new
    refine ⟨.ref s.heap.objs.size, _, I1, rfl, ⟨_, c, rfl, I.hok.fresh (Nat.le_refl _), rfl, hcx⟩, ⟨⟨Value.str ⟨#[c]⟩ tu, ?_⟩, ?_, hne⟩, fun b hb => ?_⟩
    · have e1 : ((i + 1 : Nat) : Int) = (i : Int) + 1 := by omega
      rw [e1]; exact he'
    · obtain ⟨o2, ho2, r⟩ := hit'
      exact ⟨o2, (sb.2 it (Ne.symm hne)).trans ho2, r⟩
    · have hb' : b < s.heap.objs.size := by
        have e' : b = e ∨ b = it := by simpa using hb
        rcases e' with z | z
        · rw [z]; exact hel
        · rw [z]; exact hil
      rw [upd_ne (Nat.ne_of_lt hb')]
      exact (hf b hb).1
  done := by
    intro X hP hw hK hc i pins s σ H E I hf st hg
    subst hP hw hK
    obtain ⟨⟨old, he⟩, hit, hne⟩ := st
    have hh : X.A.in1.handled = none := I.ok.hd hc
    obtain ⟨f0, f1, f2, f3, f4, f5⟩ := hf it (by simp)
    have Dr : Draws X.prog X.w X.A.in1 it [it] x.cps.size (fun i v => ∃ c u, x.cps[i]? = some c ∧ v = .str ⟨#[c]⟩ u) (fun i h => h.IsStrIter it ty x t i) := by
      rcases hty with q | q
      · rw [q]; exact Draws.strAscii hh it x t
      · rw [q]; exact Draws.strWide hh it x t
    have hg : i = x.cps.size := hg
    subst hg
    exact wpAny_pyNext_enum_endD Dr he hit fun h' eb => ⟨rfl, I.turned (t' := s.toks) (fun b o hb q => eb b o hb q) f0 f1 f3 f4 f5⟩
  self := fun A i s Q E st h => let ⟨⟨_, he⟩, _⟩ := st; wpAny_pyIter_enum he h
def iEnumS (ta : TA) : TI := fun σ H R => ta σ H fun vs H1 => ∃ x, vs = [.str x] ∧ R (Ites x) H1
theorem pi_enumS {X : Cx} {e : Expr} {ta : TA} {p pos tpos : Pos} {elts : List Expr} {kk : Nat} (hg : Gl X "enumerate") (hm : X.mg "enumerate" = none) (ha : PA X [e] ta) (hs : starEach [e] X.env = [(false, eval e X.env)] := by rfl) :
    PI X (.Tuple elts kk tpos) (.Call (.Name "enumerate" p) [e] [] pos) (iEnumS ta) := by
  refine ⟨fun pins s σ H R I h => ?_⟩
  refine Call_ (ld_blt I hg hm boot_enumerate (PyProof.Rows.callWith_type1 (thn (ha.run pos pins s σ H _ I h) fun us s1 ⟨vs, H1, I1, r1, q1⟩ => ?_) hs rfl))
  obtain ⟨x, ex, q⟩ := q1
  subst ex
  cases r1 with
  | cons r rr =>
    cases rr
    obtain ⟨t, rfl⟩ := r
    have hty : PySem.strIterType x = "str_ascii_iterator" ∨ PySem.strIterType x = "str_iterator" := by
      unfold PySem.strIterType
      split <;> simp
    refine call_enumerate_str fun h' he hit hsz hk => wpAny_pyIter_enum he ?_
    have I2 : Inv X pins σ H1 { s1 with heap := h' } := I1.kept (t' := s1.toks) hk
    refine ⟨s1.heap.objs.size + 1, [s1.heap.objs.size + 1, s1.heap.objs.size], _, _, H1, rfl, I2, turn_enumS x t _ hty (s1.heap.objs.size + 1) s1.heap.objs.size, ⟨⟨.none, he⟩, hit, Nat.succ_ne_self _⟩, fun b hb => ?_, q⟩
    have e' : b = s1.heap.objs.size + 1 ∨ b = s1.heap.objs.size := by simpa using hb
    have hle : s1.heap.objs.size ≤ b := by
      rcases e' with z | z
      · rw [z]; exact Nat.le_add_right _ _
      · rw [z]; exact Nat.le_refl _
    exact I1.fpOk hle (I1.hok.fresh hle)
theorem iter_enS {K : PySem.W.Frag} {s : List Nat} : IterP K (fun _ => True) (Ites ⟨s.toArray⟩) (enD 0 (s.map fun c => .str [c])) (fun _ _ => True) where
  mono := fun _ _ _ _ _ _ _ _ _ => trivial
  fresh := fun _ _ _ _ _ => trivial
  walk := {
    goes := fun i H hi _ => by
      rw [enD_len, List.length_map] at hi
      show i < s.toArray.size
      simpa using hi
    stops := fun H _ => by
      show _ = s.toArray.size
      rw [enD_len, List.length_map]
      simp
    yields := fun i H x H' hi _ ⟨T, c, e, nT, e2, y⟩ => by
      subst e e2
      rw [enD_len, List.length_map] at hi
      have h1 : s[i]? = some c := by simpa using y
      have h2 : (s.map fun c => D.str [c])[i]? = some (.str [c]) := by rw [List.getElem?_map, h1]; rfl
      refine ⟨Ex.new nT, _, enD_get 0 _ i _ h2, fun B _ => ?_⟩
      rw [Nat.zero_add]
      exact pair_new (.int _) (.str [c]) nT }
/-- for i, x in enumerate(e), e a list or a text -/
theorem ei_enum {K : PySem.W.Frag} {M : List Nat} {W : WX} {X : Cx} {pu : Bool} {e : Expr} {t : TE} {f : FE} {x : Str} {p pos tpos : Pos} {elts : List Expr} {kk : Nat} (hK : X.K = K) (hx : x = "enumerate") (hg : Gl X x) (hm : X.mg x = none) (h : EvD K M W X .c pu e t f)
    (hs : starEach [e] X.env = [(false, eval e X.env)] := by rfl) (hs2 : starEach [e] X.env = (false, eval e X.env) :: starEach [] X.env := by rfl) :
    EvI K M W X true pu (.Tuple elts kk tpos) (.Call (.Name x p) [e] [] pos) (orI (iEnum K (tCons t tNil)) (iEnumS (tCons t tNil))) (fEnum f) := by
  subst hK
  subst hx
  refine ⟨pi_or (pi_enum hg hm (pa_cons h.pe pa_nil hs2) hs) (pi_enumS hg hm (pa_cons h.pe pa_nil hs2) hs), fun g σ H ρ Q R q => ?_⟩
  unfold fEnum at q
  cases e1 : f ρ with
  | bad => rw [e1] at q; exact q.elim
  | exc x ρ' =>
    refine .inl (bindI (kp := true) (pu2 := pu) h.so R (k := fun d ρ1 => ofO ((itemsEn d).map (enD 0)) ρ1) q fun d ρ1 v H1 e2 _ _ _ _ => ?_)
    rw [e1] at e2
    cases e2
  | ok d ρ0 =>
    cases d with
    | lst ds =>
      refine .inl (bindI (kp := true) (pu2 := pu) h.so R (k := fun d ρ1 => ofO ((itemsEn d).map (enD 0)) ρ1) q fun d ρ1 v H1 e2 R1 w1 dv h1 => ?_)
      rw [e1] at e2
      cases e2
      have dq : Dq X.K H1 (Avs M g σ ρ0) v (.lst ds) := dv
      cases dq with
      | lst s a => exact ⟨_, _, rfl, s.seq, h1 _ _ _ H1 R1 w1 iter_enL (fun _ _ => trivial) (.lst s a)⟩
    | str s =>
      refine .inr (bindI (kp := true) (pu2 := pu) h.so R (k := fun d ρ1 => ofO ((itemsEn d).map (enD 0)) ρ1) q fun d ρ1 v H1 e2 R1 w1 dv h1 => ?_)
      rw [e1] at e2
      cases e2
      have dq : Dq X.K H1 (Avs M g σ ρ0) v (.str s) := dv
      cases dq with
      | str s => exact ⟨_, rfl, h1 _ _ _ H1 R1 w1 iter_enS (fun _ _ => trivial) trivial⟩
    | _ => rw [e1] at q; exact q.elim

/-! ### a * b -/
def rMulS : R2 := fun x y H Q => ∃ (s : List Nat) (n : Int), x = .str ⟨s.toArray⟩ ∧ y = .int n ∧ n ≤ lim ∧ -lim ≤ n ∧ s.length * n.toNat ≤ lim ∧ Q (.str ⟨(List.replicate n.toNat s).flatten.toArray⟩) H
theorem fold_app : ∀ (l : List (List Nat)) (acc : List Nat), (l.map List.toArray).foldl (· ++ ·) acc.toArray = (acc ++ l.flatten).toArray
  | [], acc => by simp
  | x :: l, acc => by
    rw [List.map_cons, List.foldl_cons, List.append_toArray, fold_app l (acc ++ x), List.flatten_cons, List.append_assoc]
theorem txt_mul (s : List Nat) (n : Int) : Txt.mul ⟨s.toArray⟩ n = ⟨(List.replicate n.toNat s).flatten.toArray⟩ := by
  unfold Txt.mul
  by_cases h1 : n < 1
  · rw [if_pos h1, show n.toNat = 0 by omega]
    rfl
  · rw [if_neg h1]
    split
    · rename_i h2
      have h2 : n = 1 ∨ s = [] := by
        rcases (Bool.or_eq_true _ _).mp h2 with h | h
        · exact .inl (by simpa using h)
        · exact .inr (by simpa [Str.length] using h)
      rcases h2 with h | h
      · subst h
        simp
      · subst h
        have : ∀ k : Nat, (List.replicate k ([] : List Nat)).flatten = [] := by
          intro k
          simp
        rw [this]
    · have h := fold_app (List.replicate n.toNat s) []
      rw [List.map_replicate] at h
      rw [show (#[] : Array Nat) = ([] : List Nat).toArray from rfl, h]
      simp
theorem op_mulS {X : Cx} : OpR X (binaryOp .Mult) rMulS := by
  intro pins s σ H x y v u Q I rx ry h
  obtain ⟨z, n, rfl, rfl, h1, h2, h3, q⟩ := h
  obtain ⟨t, rfl⟩ := rx
  obtain ⟨t', rfl⟩ := ry
  have hl : (lim : Int) = 1000000 := rfl
  have hz : (⟨z.toArray⟩ : Str).length = z.length := by simp [Str.length]
  have hn : n.natAbs < 2 ^ 63 := by
    have : n.natAbs ≤ 1000000 := by omega
    exact Nat.lt_of_le_of_lt this (by decide)
  refine SB.mul ⟨?_, fun hn _ => ?_, fun hn _ => ?_⟩ fun t' k => ?_
  · exact Bool.or_eq_false_iff.mpr ⟨decide_eq_false (by omega), decide_eq_false (by omega)⟩
  · rw [hz]
    have e : z.length * n.toNat ≤ 1000000 := h3
    intro hh
    have h5 : (9223372036854775807 / n) * n ≤ 9223372036854775807 := Int.ediv_mul_le _ (by omega)
    have h6 : 9223372036854775807 < (9223372036854775807 / n) * n + n := by
      have := Int.lt_ediv_add_one_mul_self 9223372036854775807 (show 0 < n by omega)
      rw [Int.add_mul, Int.one_mul] at this
      exact this
    have h7 : (z.length : Int) ≥ 9223372036854775807 / n + 1 := hh
    have h8 : (z.length : Int) * n ≤ 1000000 := by
      have h10 : ((z.length * n.toNat : Nat) : Int) ≤ ((1000000 : Nat) : Int) := Int.ofNat_le.mpr e
      rw [Int.natCast_mul, Int.toNat_of_nonneg (by omega)] at h10
      exact h10
    have h9 : (9223372036854775807 / n + 1) * n ≤ (z.length : Int) * n := Int.mul_le_mul_of_nonneg_right h7 (by omega)
    rw [Int.add_mul, Int.one_mul] at h9
    omega
  · rw [hz]
    unfold Builtin.Str.tooLong
    have e : z.length * n.toNat ≤ 1000000 := h3
    exact decide_eq_false (by have := sizeLine_eq; omega)
  · rw [txt_mul]
    exact ⟨.str _, H, I.tok _, ⟨_, rfl⟩, q⟩
def rMul3 : R2 := orR (rI CMul fun i j => .int (i * j)) rMulS
theorem op_mul3 {X : Cx} : OpR X (binaryOp .Mult) rMul3 := opR_or op_mul op_mulS
theorem of_mul {K : PySem.W.Frag} : OpF K rMul3 opMul := by
  intro H A x y d e z Q hA hx hy ho q
  cases hx with
  | int i =>
    cases hy with
    | int j =>
      unfold opMul at ho
      simp only at ho
      split at ho
      · rename_i hj
        cases ho
        exact .inl ⟨i, j, rfl, rfl, by have hj2 : i.natAbs < 18446744073709551616 ∨ j.natAbs < 18446744073709551616 := hj; show (-18446744073709551616 < i ∧ i < 18446744073709551616) ∨ (-18446744073709551616 < j ∧ j < 18446744073709551616); omega, q _ _ (Ex.refl H) (.int _)⟩
      · cases ho
    | _ => cases ho
  | str a =>
    cases hy with
    | int n =>
      unfold opMul at ho
      simp only at ho
      split at ho
      · rename_i hj
        cases ho
        have hn1 : n.natAbs ≤ 1000000 := hj.1
        have hn2 : (lim : Int) = 1000000 := rfl
        exact .inr ⟨a, n, rfl, rfl, by omega, by omega, hj.2, q _ _ (Ex.refl H) (.str _)⟩
      · cases ho
    | _ => cases ho
  | _ => cases hy <;> cases ho
end DL

namespace DL
open PySem PySem.Spec PyProof.Rows L2

/-! ### the rules as the printed proofs use them -/
section
variable {K : PySem.W.Frag} {M : List Nat} {W : WX} {X : Cx} {pu pu1 pu2 pu3 : Bool} {lv l1 l2 l3 : Lv} {k : Nat}
variable {a b c : Expr} {ta tb tc : TE} {fa fb fc : FE} {pos : Pos}
theorem x_add (ha : EvD K M W X .c pu1 a ta fa) (hb : EvD K M W X .c pu2 b tb fb) (hK : X.K = K := by rfl) : EvD K M W X .c (pu1 && pu2) (.BinOp a .Add b pos) (tOp (rAdd3 K) ta tb) (fOp opAdd fa fb) := by
  subst hK
  exact ev_op op_add3 of_add ha hb (.inl rfl) (.inr (.inl ⟨rfl, rfl⟩))
theorem sc_sub : ∀ d e z, opSub d e = some z → isSc z = true := fun d e z h => by
  unfold opSub at h
  split at h <;> cases h
  rfl
theorem sc_mul : ∀ d e z, opMul d e = some z → isSc z = true := fun d e z h => by
  unfold opMul at h
  split at h
  · split at h <;> cases h
    rfl
  · split at h <;> cases h
    rfl
  · cases h
theorem sc_div : ∀ d e z, opDiv d e = some z → isSc z = true := fun d e z h => by
  unfold opDiv at h
  split at h
  · split at h <;> cases h
    rfl
  · cases h
theorem sc_mod : ∀ d e z, opMod d e = some z → isSc z = true := fun d e z h => by
  unfold opMod at h
  split at h
  · split at h <;> cases h
    rfl
  · cases h
theorem sc_pow : ∀ d e z, opPow d e = some z → isSc z = true := fun d e z h => by
  unfold opPow at h
  split at h
  · split at h <;> cases h
    rfl
  · cases h
theorem x_sub (ha : EvD K M W X l1 pu1 a ta fa) (hb : EvD K M W X l2 pu2 b tb fb) (hp : l1 = .c ∨ pu2 = true := by first | exact .inl rfl | exact .inr rfl) : EvD K M W X .c (pu1 && pu2) (.BinOp a .Sub b pos) (tOp rSubI ta tb) (fOp opSub fa fb) :=
  ev_op op_sub of_sub ha hb hp (.inr (.inr sc_sub))
theorem x_mul (ha : EvD K M W X l1 pu1 a ta fa) (hb : EvD K M W X l2 pu2 b tb fb) (hp : l1 = .c ∨ pu2 = true := by first | exact .inl rfl | exact .inr rfl) : EvD K M W X .c (pu1 && pu2) (.BinOp a .Mult b pos) (tOp rMul3 ta tb) (fOp opMul fa fb) :=
  ev_op op_mul3 of_mul ha hb hp (.inr (.inr sc_mul))
theorem x_div (ha : EvD K M W X l1 pu1 a ta fa) (hb : EvD K M W X l2 pu2 b tb fb) (hp : l1 = .c ∨ pu2 = true := by first | exact .inl rfl | exact .inr rfl) : EvD K M W X .c (pu1 && pu2) (.BinOp a .FloorDiv b pos) (tOp rDivI ta tb) (fOp opDiv fa fb) :=
  ev_op op_fdivN of_div ha hb hp (.inr (.inr sc_div))
theorem x_mod (ha : EvD K M W X l1 pu1 a ta fa) (hb : EvD K M W X l2 pu2 b tb fb) (hp : l1 = .c ∨ pu2 = true := by first | exact .inl rfl | exact .inr rfl) : EvD K M W X .c (pu1 && pu2) (.BinOp a .Mod b pos) (tOp rModI ta tb) (fOp opMod fa fb) :=
  ev_op op_modN of_mod ha hb hp (.inr (.inr sc_mod))
theorem x_pow (ha : EvD K M W X l1 pu1 a ta fa) (hb : EvD K M W X l2 pu2 b tb fb) (hp : l1 = .c ∨ pu2 = true := by first | exact .inl rfl | exact .inr rfl) : EvD K M W X .c (pu1 && pu2) (.BinOp a .Pow b pos) (tOp rPowI ta tb) (fOp opPow fa fb) :=
  ev_op op_pow of_pow ha hb hp (.inr (.inr sc_pow))

/-! comparisons: what is asked of an operator -/
structure CmF (K : PySem.W.Frag) (X : Cx) (op : CmpOp) (r : R2) (f : D → D → Option D) : Prop where
  opr : OpR X (compareOp op) r
  opf : OpF K r f
  sc : ∀ d e z, f d e = some z → isSc z = true
theorem cm_lt : CmF K X .Lt (rCmpI fun i j => decide (i < j)) (opCmp fun i j => decide (i < j)) := ⟨op_lt, of_cmp, sc_cmp⟩
theorem cm_le : CmF K X .LtE (rCmpI fun i j => decide (i ≤ j)) (opCmp fun i j => decide (i ≤ j)) := ⟨op_le, of_cmp, sc_cmp⟩
theorem cm_gt : CmF K X .Gt (rCmpI fun i j => decide (j < i)) (opCmp fun i j => decide (j < i)) := ⟨op_gt, of_cmp, sc_cmp⟩
theorem cm_ge : CmF K X .GtE (rCmpI fun i j => decide (j ≤ i)) (opCmp fun i j => decide (j ≤ i)) := ⟨op_ge, of_cmp, sc_cmp⟩
theorem cm_eq (hr : Room k X.A) (hK : X.K = K := by rfl) : CmF K X .Eq (rEqD K) opEq := by
  subst hK
  exact ⟨op_eqD hr.units, of_eq, sc_eq⟩
theorem cm_ne (hr : Room k X.A) (hK : X.K = K := by rfl) : CmF K X .NotEq (rNeD K) opNe := by
  subst hK
  exact ⟨op_neD hr.units, of_ne, sc_ne⟩
theorem room65 (hr : Room k X.A) : X.A.units + 65 < cLine := by have := hr.un; omega
theorem cm_in (hr : Room k X.A) (hK : X.K = K := by rfl) : CmF K X .In (rIn3 K) opIn := by
  subst hK
  exact ⟨op_in3 (room65 hr), of_in, sc_in⟩
theorem cm_notIn (hr : Room k X.A) (hK : X.K = K := by rfl) : CmF K X .NotIn (rNotIn3 K) opNotIn := by
  subst hK
  exact ⟨op_notIn3 (room65 hr), of_notIn, sc_notIn⟩
theorem cm_is : CmF K X .Is rIsN opIs := ⟨op_isN, of_is, sc_is⟩
theorem cm_isnt : CmF K X .IsNot rIsntN opIsnt := ⟨op_notN, of_isnt, sc_isnt⟩
theorem x_cmp {op : CmpOp} {r : R2} {f : D → D → Option D} (hc : CmF K X op r f) (ha : EvD K M W X l1 pu1 a ta fa) (hb : EvD K M W X l2 pu2 b tb fb) (hp : l1 = .c ∨ pu2 = true := by first | exact .inl rfl | exact .inr rfl) (hm : behindInMarks op b = false := by first | exact nobehind _ (by decide) (by decide) | rfl) :
    EvD K M W X .c (pu1 && pu2) (.Compare a [op] [b] pos) (tOp r ta tb) (fOp f fa fb) := ev_cmp hc.opr hc.opf hm ha hb hp (.inr (.inr hc.sc))
theorem SoundG.tst {t : TE} {f : FE} (h : SoundG K M W (PV K M lv) pu t f) : SoundG K M W PB pu (tB t) (fTst f) := by
  intro g σ H ρ Q R q
  refine h.bind R q fun d ρ1 v H1 _ R1 w1 dv1 h1 => ?_
  have du := (show Dv K M g σ H1 ρ1 lv v d from dv1).u
  cases du with
  | bl b => exact ⟨b, rfl, PostG.fin (v := b) h1 R1 w1 rfl⟩
  | _ => exact h1.elim
theorem et_cmp {op : CmpOp} {r : R2} {f : D → D → Option D} (hc : CmF K X op r f) (ha : EvD K M W X l1 pu1 a ta fa) (hb : EvD K M W X l2 pu2 b tb fb) (hp : l1 = .c ∨ pu2 = true := by first | exact .inl rfl | exact .inr rfl) (hm : behindInMarks op b = false := by first | exact nobehind _ (by decide) (by decide) | rfl) :
    EvT K M W X (pu1 && pu2) (.Compare a [op] [b] pos) (tTest (tOp r ta tb)) (fTst (fOp f fa fb)) := ⟨pt_cmpR hc.opr ha.pe hb.pe hm, (x_cmp hc ha hb hp hm (pos := pos)).so.tst⟩
/-- a op b op c -/
def fChain (op op' : D → D → Option D) (f g h : FE) : FE := fun ρ => (f ρ).bind fun x ρ1 => (g ρ1).bind fun y ρ2 => match op x y with
  | some (.bl true) => (h ρ2).bind fun z ρ3 => ofO (op' y z) ρ3
  | some (.bl false) => .ok (.bl false) ρ2
  | _ => .bad
theorem so_chain {op op' : CmpOp} {r r' : R2} {f f' : D → D → Option D} (h1 : CmF K X op r f) (h2 : CmF K X op' r' f') (ha : EvD K M W X .c pu1 a ta fa) (hb : EvD K M W X .c pu2 b tb fb) (hc : EvD K M W X .c pu3 c tc fc) :
    SoundG K M W (PV K M .c) (pu1 && (pu2 && pu3)) (tChain r r' ta tb tc) (fChain f f' fa fb fc) := by
  intro g σ H ρ Q R h
  refine ha.so.bind R h fun d ρ1 v H1 _ R1 w1 dv1 q1 => ?_
  refine hb.so.bind R1 q1 fun e ρ2 w H2 _ R2 w2 dv2 q2 => ?_
  have dv1' : Dq K H2 (Avs M g σ ρ2) v d := (show Dv K M g σ H1 ρ1 .c v d from dv1).gone w2 (.inl rfl)
  have dv2 : Dq K H2 (Avs M g σ ρ2) w e := dv2
  cases hz : f d e with
  | none => simp only [hz] at q2; exact q2.elim
  | some z =>
    have hs := h1.sc _ _ _ hz
    refine h1.opf H2 _ v w d e z _ (fun a q => R2.avs a q) dv1' dv2 hz fun u H3 e3 dz => ?_
    cases dz with
    | bl k =>
      refine ⟨k, rfl, ?_⟩
      cases k with
      | false =>
        simp only [hz] at q2
        rw [if_neg (by decide)]
        exact PostG.fin (v := V.bl false) q2 (R2.kpH e3) (((w1.trans w2).ex e3).weak fun z => by simp at z ⊢; exact ⟨z.1, z.2.1⟩) (show Dq K H3 _ (.bl false) (.bl false) from .bl false)
      | true =>
        simp only [hz] at q2
        rw [if_pos rfl]
        refine hc.so.bind (R2.kpH e3) q2 fun y ρ3 u3 H4 _ R4 w4 dv4 q4 => ?_
        have w3 : Gone M σ (pu1 && (pu2 && pu3)) H ρ H4 ρ3 := (((w1.trans w2).ex e3).trans w4).weak fun z => by simp at z ⊢; exact ⟨⟨z.1, z.2.1⟩, z.2.2⟩
        have dv5 : Dq K H4 (Avs M g σ ρ3) w e := (show Dv K M g σ H3 ρ2 .c w e from dv2.ex e3).gone w4 (.inl rfl)
        cases hy : f' e y with
        | none => rw [hy] at q4; exact q4.elim
        | some z2 =>
          rw [hy] at q4
          exact h2.opf H4 _ w u3 e y z2 Q (fun a q => R4.avs a q) dv5 dv4 hy fun u5 H5 e5 d5 => PostG.fin q4 (R4.kpH e5) (w3.ex e5) d5
    | _ => simp only [hz] at q2; exact q2.elim
theorem x_chain {op op' : CmpOp} {r r' : R2} {f f' : D → D → Option D} (h1 : CmF K X op r f) (h2 : CmF K X op' r' f') (ha : EvD K M W X .c pu1 a ta fa) (hb : EvD K M W X .c pu2 b tb fb) (hc : EvD K M W X .c pu3 c tc fc) (hm : lastMarks [op, op'] [b, c] = false := by with_unfolding_all rfl) :
    EvD K M W X .c (pu1 && (pu2 && pu3)) (.Compare a [op, op'] [b, c] pos) (tChain r r' ta tb tc) (fChain f f' fa fb fc) := ⟨pe_chain h1.opr h2.opr ha.pe hb.pe hc.pe hm, so_chain h1 h2 ha hb hc⟩
theorem et_chain {op op' : CmpOp} {r r' : R2} {f f' : D → D → Option D} (h1 : CmF K X op r f) (h2 : CmF K X op' r' f') (ha : EvD K M W X .c pu1 a ta fa) (hb : EvD K M W X .c pu2 b tb fb) (hc : EvD K M W X .c pu3 c tc fc) (hm : lastMarks [op, op'] [b, c] = false := by with_unfolding_all rfl) :
    EvT K M W X (pu1 && (pu2 && pu3)) (.Compare a [op, op'] [b, c] pos) (tTest (tChain r r' ta tb tc)) (fTst (fChain f f' fa fb fc)) := ⟨pt_chain h1.opr h2.opr ha.pe hb.pe hc.pe hm, (so_chain h1 h2 ha hb hc).tst⟩

/-! x + [..], x a slot's own list -/
def fCatO (i : Nat) (h : FA) : FA := fun ρ => match ρ[i]? with
  | some (some (.lst ds)) => (h ρ).bind fun es ρ1 => if es.length ≤ lim ∧ ds.length + es.length ≤ lim then .ok (ds ++ es) ρ1 else .bad
  | _ => .bad
theorem el_catO {i : Nat} {x : Str} {es : List Expr} {t : TA} {h : FA} {px p2 : Pos} (hN : X.N[i]? = some x) (hv : Vis X.env.scope x) (hi : i ∈ M) (he : EvA K M W X .c true es t h) (hd : (x == ("__debug__" : Str)) = false := by decide) (hcd : (x == ("__classdict__" : Str)) = false := by decide) :
    EvL K M W X true (.BinOp (.Name x px) .Add (.List es p2) pos) (tOp rCat (tVar i) (tLst t)) (fCatO i h) := by
  refine ⟨pe_op op_cat (pe_var hN hv hd hcd) (pe_lst he.pe), fun g σ H ρ Q R q => ?_⟩
  unfold fCatO at q
  split at q
  · rename_i ds e
    obtain ⟨a, vs, ds', h0, h1, h2, h3, _⟩ := R.own i _ hi e
    cases h0
    refine ⟨.ref a, h1, ?_⟩
    refine bindL he.so R q fun es' ρ1 ws H1 _ R1 w1 dv1 q1 => ?_
    obtain ⟨rfl, ex⟩ := w1.pu rfl
    have dv1 : DqA K H1 (Avs M g σ ρ1) ws es' := dv1
    by_cases hl : es'.length ≤ lim ∧ ds.length + es'.length ≤ lim
    · rw [if_pos hl] at q1
      refine ⟨lim_le (by rw [dv1.length]; exact hl.1), fun p np => ?_⟩
      have e2 := Ex.new (o := .lst ws) np
      refine ⟨a, p, vs, ws, rfl, rfl, e2 _ _ (ex _ _ h2), upd_same, lim_le (by rw [h3.length, dv1.length]; exact hl.2), fun l nl => q1 l _ _ (R1.kpH e2) (w1.ex e2) nl ?_⟩
      exact ((h3.ex ex).ex e2).append (dv1.ex e2)
    · rw [if_neg hl] at q1
      exact q1.elim
  · exact q.elim
end

/-! ### a def's promise, by name -/
def Good (P : Program) (w : World) (K : PySem.W.Frag) (mg : Str → Option Value) (base : Heap) (x : Str) (ps : List Str) (k : Nat) (sp : Sp) : Prop :=
  ∃ f fd, mg x = some (.ref f) ∧ PySem.W.keepIn K (.ref f) = true ∧ Binds K fd ps [] ∧ FnOk P w K mg base (L2.CX P w) k f fd ps sp
section
variable {P : Program} {w : World} {K : PySem.W.Frag} {mg : Str → Option Value} {base : Heap} {x : Str} {ps : List Str} {k : Nat}
theorem Good.up {j : Nat} {sp : Sp} (G : Good P w K mg base x ps j sp) (h : j ≤ k) : Good P w K mg base x ps k sp := by
  obtain ⟨f, fd, h1, h2, h3, h4⟩ := G
  exact ⟨f, fd, h1, h2, h3, h4.mono h⟩
theorem Good.imp {sp sp' : Sp} (G : Good P w K mg base x ps k sp) (h : ∀ vs H Q E, sp' vs H Q E → sp vs H Q E) : Good P w K mg base x ps k sp' := by
  obtain ⟨f, fd, h1, h2, h3, h4⟩ := G
  exact ⟨f, fd, h1, h2, h3, h4.imp h⟩
end
section
variable {K : PySem.W.Frag} {M : List Nat} {W : WX} {X : Cx} {pu pu1 pu2 : Bool} {lv l1 : Lv}
theorem x_call {k j n : Nat} {ps : List Str} {sem : List D → Res} {x : Str} {p pos : Pos} {e : Expr} {es : List Expr} {t : TA} {fa : FA}
    (G : Good X.prog X.w X.K X.mg X.base x ps j (spF X.K n sem)) (hr : Room k X.A) (tk : Takes X W) (ha : EvA K M W X .c pu (e :: es) t fa) (hlen : ∀ ρ ds ρ', fa ρ = .ok ds ρ' → ds.length = n) (hK : X.K = K := by rfl) (hj : j ≤ k := by decide) (hg : Gl X x := by rfl) (hn : n = (e :: es).length := by rfl)
    (hdb : (x == ("__debug__" : Str)) = false := by decide) (he : starEach (e :: es) X.env = (false, eval e X.env) :: starEach es X.env := by rfl) (hpl : (backTo pos (starEach es X.env)).any (·.1) = false := by rfl) :
    EvD K M W X .c pu (.Call (.Name x p) (e :: es) [] pos) (tCallS (spF K n sem) (WE W) t) (fCallF sem fa) := by
  subst hK
  obtain ⟨f, fd, h1, h2, h3, h4⟩ := G
  exact ev_call (h4.mono hj) hr hg h1 h2 h3 tk hn ha (fun _ => rfl) (by decide) hdb he hpl hlen
/-- the same, where the arguments may reach slots' lists -/
theorem x_callU {k j n : Nat} {ps : List Str} {sem : List D → Res} {x : Str} {p pos : Pos} {e : Expr} {es : List Expr} {t : TA} {fa : FA}
    (G : Good X.prog X.w X.K X.mg X.base x ps j (spF X.K n sem)) (hr : Room k X.A) (tk : Takes X W) (ha : EvA K M W X .u pu (e :: es) t fa) (hlen : ∀ ρ ds ρ', fa ρ = .ok ds ρ' → ds.length = n) (hK : X.K = K := by rfl) (hj : j ≤ k := by decide) (hg : Gl X x := by rfl) (hn : n = (e :: es).length := by rfl)
    (hdb : (x == ("__debug__" : Str)) = false := by decide) (he : starEach (e :: es) X.env = (false, eval e X.env) :: starEach es X.env := by rfl) (hpl : (backTo pos (starEach es X.env)).any (·.1) = false := by rfl) :
    EvD K M W X .u pu (.Call (.Name x p) (e :: es) [] pos) (tCallS (spF K n sem) (WE W) t) (fCallF sem fa) := by
  subst hK
  obtain ⟨f, fd, h1, h2, h3, h4⟩ := G
  exact ev_call (h4.mono hj) hr hg h1 h2 h3 tk hn ha (fun z => by cases z) (by decide) hdb he hpl hlen
theorem x_row {k j n i : Nat} {ps : List Str} {sem : List D → List D → ResR} {x y : Str} {p py pos : Pos} {es : List Expr} {t : TA} {fa : FA}
    (G : Good X.prog X.w X.K X.mg X.base x ps j (spR X.K n sem)) (hr : Room k X.A) (tk : Takes X W) (i' : i = i) (hN : X.N[i]? = some y) (hv : Vis X.env.scope y) (hi : i ∈ M) (ha : EvA K M W X .c pu es t fa) (hlen : ∀ ρ ds ρ', fa ρ = .ok ds ρ' → ds.length = n) (hK : X.K = K := by rfl) (hj : j ≤ k := by decide) (hg : Gl X x := by rfl)
    (hdb : (x == ("__debug__" : Str)) = false := by decide) (hd : (y == ("__debug__" : Str)) = false := by decide) (hcd : (y == ("__classdict__" : Str)) = false := by decide)
    (he : starEach (.Name y py :: es) X.env = (false, eval (.Name y py) X.env) :: starEach es X.env := by rfl) (hpl : (backTo pos (starEach es X.env)).any (·.1) = false := by rfl) :
    EvD K M W X .c false (.Call (.Name x p) (.Name y py :: es) [] pos) (tCallS (spR K n sem) (WE W) (tCons (tVar i) t)) (fRow i sem fa) := by
  subst hK
  obtain ⟨f, fd, h1, h2, h3, h4⟩ := G
  exact ev_row (h4.mono hj) hr hg h1 h2 h3 tk hN hv hi ha hdb hd hcd he hpl hlen
end

/-! lengths of argument lists -/
theorem len_nil : ∀ (ρ : Rho) (ds : List D) (ρ' : Rho), fNil ρ = .ok ds ρ' → ds.length = 0 := fun ρ ds ρ' h => by
  cases h
  rfl
theorem len_cons {f : FE} {h : FA} {n : Nat} (hl : ∀ (ρ : Rho) (ds : List D) (ρ' : Rho), h ρ = .ok ds ρ' → ds.length = n) : ∀ (ρ : Rho) (ds : List D) (ρ' : Rho), fCons f h ρ = .ok ds ρ' → ds.length = n + 1 := fun ρ ds ρ' q => by
  unfold fCons at q
  cases e : f ρ with
  | bad => rw [e] at q; cases q
  | exc _ _ => rw [e] at q; cases q
  | ok a ρ1 =>
    rw [e, Out.bind_ok] at q
    cases e2 : h ρ1 with
    | bad => rw [e2] at q; cases q
    | exc _ _ => rw [e2] at q; cases q
    | ok as ρ2 =>
      rw [e2, Out.bind_ok] at q
      cases q
      rw [List.length_cons, hl _ _ _ e2]

/-! ### a def's promise by its body -/
section
variable {P : Program} {w : World} {K : PySem.W.Frag} {mg : Str → Option Value} {base : Heap} {x qual : Str} {params : Arguments} {body : List Stmt} {scope : Scope} {N ps : List Str} {k n : Nat} {M : List Nat} {F : FS}
theorem fn_fn {f : Addr} {fd : FuncData} (FD : FunD K x qual params body scope [] [] f fd) (S : FnScope N ps scope) (hn : ps.length = n) (hm : ∀ i ∈ M, n ≤ i)
    (h : ∀ (f : Addr) (cdv : Value) (A : Around) (outer : List Env) (s : Shared) (H : Hp) (E : XK), Room k (A.deeper (envOfC qual scope s.heap.objs.size f cdv)) →
      ∃ t, EvSs K M (fun c d _ H => E c d H) (cxOf (L2.CX P w) P w K mg base N qual scope f cdv A outer s H E) body t F) :
    FnOk P w K mg base (L2.CX P w) (k + 1) f fd ps (spF K n (runF F N.length n)) := by
  refine FD.ok S (fun vs H Q E h => (spF_len vs H Q E h).trans hn.symm) fun cdv A outer s H vs Q E hr hsp => ?_
  obtain ⟨t, ev⟩ := h f cdv A outer s H E hr
  exact ⟨t, ev.ps, fn_end ev.so hm hsp⟩
theorem good_fn (FD : ∃ f fd, FunD K x qual params body scope [] [] f fd ∧ mg x = some (.ref f)) (S : FnScope N ps scope) (hn : ps.length = n)
    (hb : ∀ (kV doc pm : Value) (an : Option Addr) (cdv ct : Value) (us : List Value), us.length = ps.length → bindArgs (PySem.W.fnOf x qual params body scope .none kV doc pm an cdv ct) ⟨us, []⟩ = pure (ps.zip us)) (hm : ∀ i ∈ M, n ≤ i)
    (h : ∀ (f : Addr) (cdv : Value) (A : Around) (outer : List Env) (s : Shared) (H : Hp) (E : XK), Room k (A.deeper (envOfC qual scope s.heap.objs.size f cdv)) →
      ∃ t, EvSs K M (fun c d _ H => E c d H) (cxOf (L2.CX P w) P w K mg base N qual scope f cdv A outer s H E) body t F) :
    Good P w K mg base x ps (k + 1) (spF K n (runF F N.length n)) := by
  obtain ⟨f, fd, FD, hmg⟩ := FD
  refine ⟨f, fd, hmg, FD.kp, FD.bindsN hb, FD.ok S (fun vs H Q E h => (spF_len vs H Q E h).trans hn.symm) fun cdv A outer s H vs Q E hr hsp => ?_⟩
  obtain ⟨t, ev⟩ := h f cdv A outer s H E hr
  exact ⟨t, ev.ps, fn_end ev.so hm hsp⟩
theorem good_row (FD : ∃ f fd, FunD K x qual params body scope [] [] f fd ∧ mg x = some (.ref f)) (S : FnScope N ps scope) (hn : ps.length = n + 1)
    (hb : ∀ (kV doc pm : Value) (an : Option Addr) (cdv ct : Value) (us : List Value), us.length = ps.length → bindArgs (PySem.W.fnOf x qual params body scope .none kV doc pm an cdv ct) ⟨us, []⟩ = pure (ps.zip us)) (h0 : 0 ∈ M) (hm : ∀ i ∈ M, i = 0 ∨ n + 1 ≤ i)
    (h : ∀ (f : Addr) (cdv : Value) (A : Around) (outer : List Env) (s : Shared) (H : Hp) (E : XK), Room k (A.deeper (envOfC qual scope s.heap.objs.size f cdv)) →
      ∃ t, EvSs K M (fun c d _ H => E c d H) (cxOf (L2.CX P w) P w K mg base N qual scope f cdv A outer s H E) body t F) :
    Good P w K mg base x ps (k + 1) (spR K n (runR F N.length n)) := by
  obtain ⟨f, fd, FD, hmg⟩ := FD
  refine ⟨f, fd, hmg, FD.kp, FD.bindsN hb, FD.ok S (fun vs H Q E h => (spR_len vs H Q E h).trans hn.symm) fun cdv A outer s H vs Q E hr hsp => ?_⟩
  obtain ⟨t, ev⟩ := h f cdv A outer s H E hr
  exact ⟨t, ev.ps, row_end ev.so h0 hm hsp⟩
theorem good_bad (FD : ∃ f fd, FunD K x qual params body scope [] [] f fd ∧ mg x = some (.ref f)) (S : FnScope N ps scope) (hn : ps.length = n)
    (hb : ∀ (kV doc pm : Value) (an : Option Addr) (cdv ct : Value) (us : List Value), us.length = ps.length → bindArgs (PySem.W.fnOf x qual params body scope .none kV doc pm an cdv ct) ⟨us, []⟩ = pure (ps.zip us)) :
    Good P w K mg base x ps 1 (spF K n fun _ => .bad) := by
  obtain ⟨f, fd, FD, hmg⟩ := FD
  refine ⟨f, fd, hmg, FD.kp, FD.bindsN hb, FD.ok (k := 0) S (fun vs H Q E h => (spF_len vs H Q E h).trans hn.symm) fun cdv A outer s H vs Q E hr hsp => ?_⟩
  obtain ⟨_, _, _, _, _, h⟩ := hsp
  exact h.elim
end
end DL

namespace DL
open PySem PySem.Spec PyProof.Rows L2
/-! the same rules; that a part is pure is asked for behind it -/
section
variable {K : PySem.W.Frag} {M : List Nat} {W : WX} {X : Cx} {pu pu1 pu2 kp : Bool} {lv l1 l2 : Lv} {pos : Pos}
theorem x_comp {px1 px2 : Bool} {elt tg iter : Expr} {ifs : List Expr} {scope : Scope} {own : List (Str × Nat)} {pos : Pos} {wi : TI} {gt : TG} {tt : TT} {te : TE} {fi : FA} {fg : FG} {fc : FT} {fe : FE} {ts : List Nat}
    (hc : X.calm = true) (hN : X.N.Nodup) (hi : EvI K M W X kp pu tg iter wi fi) (ok : BlkOk X.N X.env.scope scope own) (hv : ∀ i ∈ own.map (·.2), i ∉ M) (hts : ∀ i ∈ ts, i ∈ own.map (·.2))
    (hg : ∀ (s : Shared) (H : Hp) (C : Addr) (cl : List (Str × Addr)) (fp : List Addr), EvG K M (X.blk s H scope (compEnvC scope cl C X.env) fp) ts tg gt fg)
    (ht : ∀ (s : Shared) (H : Hp) (C : Addr) (cl : List (Str × Addr)) (fp : List Addr), EvTs K M W0 (X.blk s H scope (compEnvC scope cl C X.env) fp) px1 ifs tt fc)
    (he : ∀ (s : Shared) (H : Hp) (C : Addr) (cl : List (Str × Addr)) (fp : List Addr), EvD K M W0 (X.blk s H scope (compEnvC scope cl C X.env) fp) .c px2 elt te fe) (hp1 : px1 = true := by rfl) (hp2 : px2 = true := by rfl) (hs : ∀ x, foldedSetIterable iter X.env x = pure x := by intro _; rfl) :
    EvL K M W X pu (.ListComp elt [⟨tg, iter, ifs, 0⟩] scope pos) (tLc wi gt tt te (own.map (·.2))) (fComp (own.map (·.2)) fi fg fc fe) := by
  subst hp1 hp2
  exact el_comp hc hN hi ok hv hts hg ht he hs

theorem x_setC {px1 px2 : Bool} {i : Nat} {y : Str} {py : Pos} {elt tg iter : Expr} {ifs : List Expr} {scope : Scope} {own : List (Str × Nat)} {pos spos : Pos} {wi : TI} {gt : TG} {tt : TT} {te : TE} {fi : FA} {fg : FG} {fc : FT} {fe : FE} {ts : List Nat}
    (hm : i ∉ M) (hy : X.N[i]? = some y) (hyl : X.env.scope.names.lookup y = some .local) (hsw : swapsWith (.ListComp elt [⟨tg, iter, ifs, 0⟩] scope pos) (some (.Name y py)) spos.line X.env = pure true)
    (hc : X.calm = true) (hN : X.N.Nodup) (hi : EvI K M W X kp pu tg iter wi fi) (ok : BlkOk X.N X.env.scope scope own) (hv : ∀ i ∈ own.map (·.2), i ∉ M) (hts : ∀ i ∈ ts, i ∈ own.map (·.2))
    (hg : ∀ (s : Shared) (H : Hp) (C : Addr) (cl : List (Str × Addr)) (fp : List Addr), EvG K M (X.blk s H scope (compEnvC scope cl C X.env) fp) ts tg gt fg)
    (ht : ∀ (s : Shared) (H : Hp) (C : Addr) (cl : List (Str × Addr)) (fp : List Addr), EvTs K M W0 (X.blk s H scope (compEnvC scope cl C X.env) fp) px1 ifs tt fc)
    (he : ∀ (s : Shared) (H : Hp) (C : Addr) (cl : List (Str × Addr)) (fp : List Addr), EvD K M W0 (X.blk s H scope (compEnvC scope cl C X.env) fp) .c px2 elt te fe) (hp1 : px1 = true := by rfl) (hp2 : px2 = true := by rfl) (hs : ∀ x, foldedSetIterable iter X.env x = pure x := by intro _; rfl) :
    EvS K M W X (.Assign [.Name y py] (.ListComp elt [⟨tg, iter, ifs, 0⟩] scope pos) spos) (tAsg (tLc wi gt tt te (own.map (·.2))) (gName i)) (sSet i (fOfL (fComp (own.map (·.2)) fi fg fc fe))) := by
  subst hp1 hp2
  exact s_setC hm hy hyl hsw hc hN hi ok hv hts hg ht he hs

theorem x_parL {px1 : Bool} {i j : Nat} {x y : Str} {a b : Expr} {ta tb : TE} {fa : FA} {fb : FE} {px py pt : Pos} {kt k2 pt2} {pos : Pos} (hc : X.calm = true) (hN : X.N.Nodup) (hi : X.N[i]? = some x) (hj : X.N[j]? = some y) (hij : i ≠ j)
    (hx : X.env.scope.names.lookup x = some .local) (hy : X.env.scope.names.lookup y = some .local) (hmi : i ∈ M) (hi0 : i ≠ 0) (hmj : j ∉ M) (ha : EvL K M W X pu1 a ta fa) (hb : EvD K M W X .c px1 b tb fb)
    (hw : swappedStores [.Tuple [.Name x px, .Name y py] kt pt] (.Tuple [a, b] k2 pt2) X.env = pure (some [x, y]))
    (hp1 : px1 = true := by rfl) (hs1 : starEach [a, b] X.env = (false, eval a X.env) :: starEach [b] X.env := by rfl) (hs2 : starEach [b] X.env = (false, eval b X.env) :: starEach [] X.env := by rfl)
    (hs : swapsWithSole [.Tuple [.Name x px, .Name y py] kt pt] (.Tuple [a, b] k2 pt2) pos.line X.env = pure false := by rfl) :
    EvS K M W X (.Assign [.Tuple [.Name x px, .Name y py] kt pt] (.Tuple [a, b] k2 pt2) pos) (tPar i j (tCons ta (tCons tb tNil))) (sParL i j fa fb) := by
  subst hp1
  exact s_parL hc hN hi hj hij hx hy hmi hi0 hmj ha hb hw hs1 hs2 hs

theorem x_catO {px1 : Bool} {i : Nat} {x : Str} {es : List Expr} {t : TA} {h : FA} {px p2 : Pos} (hN : X.N[i]? = some x) (hv : Vis X.env.scope x) (hi : i ∈ M) (he : EvA K M W X .c px1 es t h) (hp1 : px1 = true := by rfl) (hd : (x == ("__debug__" : Str)) = false := by decide) (hcd : (x == ("__classdict__" : Str)) = false := by decide) :
    EvL K M W X true (.BinOp (.Name x px) .Add (.List es p2) pos) (tOp rCat (tVar i) (tLst t)) (fCatO i h) := by
  subst hp1
  exact el_catO hN hv hi he hd hcd

end
end DL

namespace DL
open PySem PySem.Spec PyProof PyProof.Rows L2

/-! ### list(a text) -/
section
variable {prog : Program} {w : World} {A : Around} {E : Value → Shared → Prop} {s : Shared} {x : Str} {t : Tok}
theorem hint_str {Q : Bool → Shared → Prop} (h : Q false s) : wpAny (model prog w) A (Builtin.List.listLengthHint (.str x t)) Q E s := by
  unfold Builtin.List.listLengthHint
  refine wpAny_bind (wpAny_specialOf (typeIs_str s x t) PySem.F.slot_str_len.lookup ?_)
  generalize hid : ("str.__len__" : String) = id0
  wp_delta
  rw [show splitId id0 = some ("str", "__len__") from by subst hid; decide +kernel]
  subst hid
  refine wpAny_bind (wpAny_isInstance (T := "str") (b := true) (typeIs_str s x t) (by rw [isSubtype_type]; kernel_rfl) ?_)
  refine wpAny_ite_split (fun hab => absurd hab (by decide)) (fun _ => ?_)
  refine wpAny_ite_split (fun _ => ?_) (fun hab => absurd (by decide +kernel) hab)
  refine wpAny_bind (wpAny_typeOf (typeIs_str s x t) ?_)
  exact wpAny_pure h
theorem iter_text (A : Around) (s : Shared) (hh : A.handled = none) (x : Str) (t : Tok) : ∃ (oI : Obj) (St : Nat → Heap → Prop),
    (∀ (E : Value → Shared → Prop) (Q : Value → Shared → Prop), Q (.ref s.heap.objs.size) { s with heap := s.heap.push oI } → wpAny (model prog w) A (pyIter (.str x t)) Q E s) ∧
    Walks prog w A s.heap.objs.size [s.heap.objs.size] [s.heap.objs.size] x.cps.size (SignAt x) St ∧ St 0 (s.heap.push oI) := by
  cases ha : x.cps.all (· < 128)
  · exact ⟨_, _, fun _ _ q => wpAny_pyIter_wide ha q, Walks.strWide hh _ x t, ⟨_, Heap.get?_push_size _ rfl, rfl, rfl⟩⟩
  · exact ⟨_, _, fun _ _ q => wpAny_pyIter_ascii ha q, Walks.strAscii hh _ x t, ⟨_, Heap.get?_push_size _ rfl, rfl, rfl⟩⟩
theorem extend_text {R : Result → Shared → Prop} (hh : A.handled = none) (S : Addr) (res : Value) (c₀ : Nat) (hS : s.heap.get? S = some { cls := .type "list", data := .seq #[] c₀ })
    (hR : ∀ h' tk acc' c', (∀ b o, b ≠ S → s.heap.get? b = some o → h'.get? b = some o) → h'.get? S = some { cls := .type "list", dict := none, data := .seq acc' c', slots := #[] } → ItemsOf (SignAt x) acc' x.cps.size → R (.ok (.ret res)) { s with heap := h', toks := tk }) (hn : x.cps.size ≤ sizeLine) :
    wpAny (model prog w) A.in1 (Builtin.List.listExtendWith (.ref S) (.str x t) res)
      (fun fin s' => match fin with | .done f => R (.ok f) s' | .again c' => c'.quiet = true ∧ codeAny (model prog w) A c' R s') (fun e s' => R (.error e) s') s := by
  have hSI : S ≠ s.heap.objs.size := Nat.ne_of_lt (Heap.lt_size hS)
  have hSf : S ∉ [s.heap.objs.size] := by simp only [List.mem_cons, List.not_mem_nil, or_false]; exact hSI
  obtain ⟨oI, St, hit, W, st⟩ := iter_text (prog := prog) (w := w) A.in1 s hh x t
  have key : ∀ (h : Heap) (c₁ tk : Nat), St 0 h → (∀ b o, b ≠ S → s.heap.get? b = some o → h.get? b = some o) →
      h.get? S = some { cls := .type "list", data := .seq #[] c₁ } → codeAny (model prog w) A (.builtin "list.extend.loop" ⟨[.ref S, .ref s.heap.objs.size, res], []⟩) R { s with heap := h, toks := tk } := by
    intro h c₁ tk hst hk hS₁
    refine codeAny_extend_loopS W.toS hn S hSf res x.cps.size 0 _ #[] c₁ rfl (Nat.zero_le _) hst hS₁ (ItemsOf.nil _) fun s' acc' c' hm hS' hacc => ?_
    rw [Moved.eq_with hm]
    refine hR s'.heap s'.toks acc' c' (fun b o hb e => hm.heap b o (fun hmem => ?_) (hk b o hb e)) hS' hacc
    rcases List.mem_cons.mp hmem with e' | hmem
    · exact hb e'
    · exact absurd (Heap.lt_size e) (by rw [List.mem_singleton.mp hmem]; exact Nat.lt_irrefl _)
  unfold Builtin.List.listExtendWith
  refine wpAny_bind (wpAny_typeOf (typeIs_str s x t) ?_)
  have h1 : Builtin.List.listSameRef (.ref S) (.str x t) = false := rfl
  have h2 : (Value.type "str" == Value.type "list") = false := by decide
  have h3 : (Value.type "str" == Value.type "tuple") = false := by decide
  simp only [h1, h2, h3, Bool.or_false, Bool.false_eq_true, if_false]
  refine wpAny_bind (hit _ _ ?_)
  have hS₁ := Heap.get?_push_of_some oI hS
  refine wpAny_bind (wpAny_holding (hint_str ?_))
  refine wpAny_ite_split (fun _ => ?_) (fun _ => wpAny_pure ⟨plainId_quiet PySem.F.plain_extend_loop _, key _ c₀ _ st (fun b o _ e => Heap.get?_push_of_some _ e) hS₁⟩)
  refine wpAny_bind (wpAny_rule ?_)
  refine wpAny_bind ?_
  show wpAny _ _ (updateSeq S (·.push .none) >>= fun _ => updateSeq S (·.pop)) _ _ _
  refine wpAny_bind (wpAny_updateSeq hS₁ rfl ?_)
  have hS₂ := Heap.get?_update_self (Obj.mapSeq (·.push Value.none)) hS₁ rfl
  refine wpAny_updateSeq (hz := by seq_fits) hS₂ rfl ?_
  have hS₃ := Heap.get?_update_self (Obj.mapSeq (·.pop)) hS₂ rfl
  refine wpAny_pure ⟨plainId_quiet PySem.F.plain_extend_loop _, key _ _ _ ?_ (fun b o hb e => ?_) hS₃⟩
  · refine W.frame 0 _ _ st fun b hb o e => ?_
    have hbS : b ≠ S := fun h => hSf (h ▸ hb)
    exact (Heap.get?_update_other _ _ (Ne.symm hbS)).trans ((Heap.get?_update_other _ _ (Ne.symm hbS)).trans e)
  · exact (Heap.get?_update_other _ _ (Ne.symm hb)).trans ((Heap.get?_update_other _ _ (Ne.symm hb)).trans (Heap.get?_push_of_some _ e))
theorem init_text {R : Result → Shared → Prop} (hh : A.handled = none) (S : Addr) (hS : s.heap.get? S = some { cls := .type "list", data := .seq #[] })
    (hR : ∀ h' tk acc' c', (∀ b o, b ≠ S → s.heap.get? b = some o → h'.get? b = some o) → h'.get? S = some { cls := .type "list", dict := none, data := .seq acc' c', slots := #[] } → ItemsOf (SignAt x) acc' x.cps.size → R (.ok (.ret .none)) { s with heap := h', toks := tk }) (hn : x.cps.size ≤ sizeLine) :
    wpAny (model prog w) A.in1 (Builtin.«list.__init__» ⟨[.ref S, .str x t], []⟩)
      (fun fin s' => match fin with | .done f => R (.ok f) s' | .again c' => c'.quiet = true ∧ codeAny (model prog w) A c' R s') (fun e s' => R (.error e) s') s := by
  show wpAny _ _ (do let old ← Builtin.List.listItems (.ref S); Builtin.List.listUpdate (.ref S) (fun _ => #[]); letGo old.toList.reverse; Builtin.List.listExtendWith (.ref S) (.str x t) .none) _ _ s
  refine wpAny_bind ?_
  unfold Builtin.List.listItems
  refine wpAny_bind (wpAny_seqItems hS rfl (wpAny_pure ?_))
  show wpAny _ _ (updateSeq S (fun _ => #[]) >>= fun _ => letGo (#[] : Array Value).toList.reverse >>= fun _ => Builtin.List.listExtendWith (.ref S) (.str x t) .none) _ _ s
  refine wpAny_bind (wpAny_updateSeq hS rfl ?_)
  have hS₂ := Heap.get?_update_self (Obj.mapSeq (fun _ => (#[] : Array Value))) hS rfl
  have oth : ∀ b o, b ≠ S → s.heap.get? b = some o → (s.heap.update S (Obj.mapSeq (fun _ => (#[] : Array Value)))).get? b = some o :=
    fun b o hb e => (Heap.get?_update_other _ _ (Ne.symm hb)).trans e
  refine wpAny_bind (wpAny_letGo ?_)
  refine extend_text hh S .none _ hS₂ (fun h' tk acc' c' hk hS' hacc => ?_) hn
  exact hR h' tk acc' c' (fun b o hb e => hk b o hb (oth b o hb e)) hS' hacc
theorem call_text {Q : Value → Shared → Prop} (hh : A.handled = none) (hn : x.cps.size ≤ sizeLine)
    (hQ : ∀ h' tk acc' c', (∀ b o, s.heap.get? b = some o → h'.get? b = some o) → h'.get? s.heap.objs.size = some { cls := .type "list", dict := none, data := .seq acc' c', slots := #[] } → ItemsOf (SignAt x) acc' x.cps.size → Q (.ref s.heap.objs.size) { s with heap := h', toks := tk }) :
    wpAny (model prog w) A (call (.type "list") [.str x t]) Q E s := by
  refine callType_codes (Q₁ := fun obj s₁ => obj = .ref s.heap.objs.size ∧ s₁ = { s with heap := s.heap.push { cls := .type "list", data := .seq #[] } }) PySem.F.called_list (PySem.F.typeCall_list_1 _) PySem.F.entry_list_init
    (code_list_new _ ⟨rfl, rfl⟩) fun obj s₁ h₁ => ?_
  obtain ⟨rfl, rfl⟩ := h₁
  have hS : (s.heap.push { cls := .type "list", data := .seq #[] }).get? s.heap.objs.size = some { cls := .type "list", data := .seq #[] } := Heap.get?_push_size _ rfl
  refine ⟨⟨_, hS, rfl⟩, PySem.F.args_list_init_2 _ _, init_text (A := A.in1) hh _ hS (fun h' tk acc' c' hk hS' hacc => ?_) hn⟩
  exact ⟨rfl, hQ h' tk acc' c' (fun b o e => hk b o (Nat.ne_of_lt (Heap.lt_size e)) (Heap.get?_push_of_some _ e)) hS' hacc⟩
end
def rListS : List V → Hp → VK → Prop := fun xs H Q => ∃ z : List Nat, xs = [.str ⟨z.toArray⟩] ∧ z.length ≤ lim ∧ ∀ l, H l = none → Q (.ref l) (upd H l (.lst (z.map fun c => V.str ⟨#[c]⟩)))
theorem call_list_text {X : Cx} (hc : X.calm = true) : CallR X (.type "list") rListS := by
  intro pins s σ H xs us Q I r h
  obtain ⟨z, e, hz, q⟩ := h
  subst e
  obtain ⟨u, eu, rx⟩ := vals1 r
  subst eu
  obtain ⟨t, rfl⟩ := rx
  refine call_text (I.ok.hd hc) (lim_le (by simpa using hz)) fun h' tk acc' c' hkeep hS hacc => ?_
  refine ⟨.ref s.heap.objs.size, upd H s.heap.objs.size (.lst (z.map fun c => V.str ⟨#[c]⟩)), I.laid hkeep (Nat.le_refl _) (show ObjOk X.prog X.w _ _ _ (.lst (z.map fun c => V.str ⟨#[c]⟩)) from ⟨?_, acc'.toList, c', ?_, ?_⟩), rfl, q _ (I.hok.fresh (Nat.le_refl _))⟩
  · rw [List.length_map]; exact lim_le hz
  · have el : acc'.toList.length = acc'.size := by simp
    have h0 : acc'.size = z.length := by have := hacc.1; simpa using this
    refine vals_of_at (by rw [List.length_map, el, h0]) fun j x w h1 h2 => ?_
    obtain ⟨c, u, hc, rfl⟩ := hacc.2 j w (by rw [← Array.getElem?_toList]; exact h2)
    have hc : z[j]? = some c := by simpa using hc
    rw [List.getElem?_map, hc] at h1
    cases h1
    exact ⟨u, rfl⟩
  · rw [Array.toArray_toList]; exact hS

variable {K : PySem.W.Frag} {M : List Nat} {W : WX} {X : Cx} {l1 : Lv} {pu : Bool}
/-- list of a list, of a tuple, of a text -/
def fListOf3 (f : FE) : FA := fun ρ => (f ρ).bind fun d ρ1 => match d with
  | .lst ds => .ok ds ρ1
  | .tup ds => .ok ds ρ1
  | .str s => if s.length ≤ lim then .ok (s.map fun c => .str [c]) ρ1 else .bad
  | _ => .bad
theorem callR_or {v : Value} {r r' : List V → Hp → VK → Prop} (h : CallR X v r) (h' : CallR X v r') : CallR X v (fun xs H Q => r xs H Q ∨ r' xs H Q) := by
  intro pins s σ H xs us Q I rx q
  rcases q with q | q
  · exact h pins s σ H xs us Q I rx q
  · exact h' pins s σ H xs us Q I rx q
theorem signs_dq {H : Hp} {A : Addr → Prop} : ∀ z : List Nat, DqA K H A (z.map fun c => V.str ⟨#[c]⟩) (z.map fun c => D.str [c])
  | [] => .nil
  | c :: z => .cons (.str [c]) (signs_dq z)
theorem el_list3 {x : Str} {e : Expr} {t : TE} {f : FE} {p pos : Pos} (hK : X.K = K) (hcm : X.calm = true) (hx : x = "list") (hg : Gl X x) (hm : X.mg x = none) (ha : EvD K M W X l1 pu e t f) (hl : l1 ≠ .u)
    (he : starEach [e] X.env = (false, eval e X.env) :: starEach [] X.env := by rfl) (hpl : (backTo pos (starEach [] X.env)).any (·.1) = false := by rfl) : EvL K M W X pu (.Call (.Name x p) [e] [] pos) (tCB (fun xs H Q => rListB K xs H Q ∨ rListS xs H Q) (tCons t tNil)) (fListOf3 f) := by
  subst hK
  subst hx
  refine ⟨pe_callTy (callR_or call_list_of (call_list_text hcm)) hg hm (by decide +kernel) (pa_cons ha.pe pa_nil he) (by decide) (by decide) he hpl, fun g σ H ρ Q R q => ?_⟩
  refine bindL ha.so R q fun d ρ1 v H1 _ R1 w1 dv1 h1 => ?_
  have dv1 : Dv X.K M g σ H1 ρ1 l1 v d := dv1
  cases d with
  | lst ds =>
    obtain ⟨p, vs, rfl, h3, h4⟩ := dv_items dv1 hl (.inl rfl)
    exact .inl ⟨p, vs, rfl, h3, fun l nl => h1 l H1 vs R1 w1 nl h4⟩
  | tup ds =>
    obtain ⟨p, vs, rfl, h3, h4⟩ := dv_items dv1 hl (.inr rfl)
    exact .inl ⟨p, vs, rfl, h3, fun l nl => h1 l H1 vs R1 w1 nl h4⟩
  | str z =>
    have h5 : v = .str ⟨z.toArray⟩ := by
      cases dv1.u
      rfl
    subst h5
    have h1 : PostL X.K M W pu g σ H ρ (if z.length ≤ lim then .ok (z.map fun c => .str [c]) ρ1 else .bad) Q := h1
    by_cases hz : z.length ≤ lim
    · rw [if_pos hz] at h1
      exact .inr ⟨z, rfl, hz, fun l nl => h1 l H1 _ R1 w1 nl (signs_dq z)⟩
    · rw [if_neg hz] at h1
      exact h1.elim
  | _ => exact h1.elim
end DL

namespace WT
/-! words without end: s, then t again and again (t not empty) -/
def cyc (t : List Nat) (i : Nat) : Nat := t.getD (i % t.length) 0
def sat (s t : List Nat) (i : Nat) : Nat := if i < s.length then s.getD i 0 else cyc t (i - s.length)
def Prim (t : List Nat) : Prop := ∀ j, 0 < j → j < t.length → j ∣ t.length → ¬ ∀ i, cyc t (i + j) = cyc t i
def Norm (s t : List Nat) : Prop := s = [] ∨ s.getLast? ≠ t.getLast?
theorem cyc_add (t : List Nat) (i : Nat) : cyc t (i + t.length) = cyc t i := by
  unfold cyc
  rw [Nat.add_mod_right]
theorem cyc_mul (t : List Nat) (i k : Nat) : cyc t (i + t.length * k) = cyc t i := by
  unfold cyc
  rw [Nat.add_mul_mod_self_left]
theorem cyc_lt {t : List Nat} {i : Nat} (h : i < t.length) : cyc t i = t.getD i 0 := by
  unfold cyc
  rw [Nat.mod_eq_of_lt h]
theorem cyc_mod (t : List Nat) (i : Nat) : cyc t (i % t.length) = cyc t i := by
  unfold cyc
  rw [Nat.mod_mod]
theorem sat_lt {s t : List Nat} {i : Nat} (h : i < s.length) : sat s t i = s.getD i 0 := if_pos h
theorem sat_ge {s t : List Nat} {i : Nat} (h : s.length ≤ i) : sat s t i = cyc t (i - s.length) := if_neg (by omega)
theorem sat_add {s t : List Nat} (i : Nat) : sat s t (s.length + i) = cyc t i := by
  rw [sat_ge (by omega)]
  congr 1
  omega
theorem sat_per {s t : List Nat} {i : Nat} (h : s.length ≤ i) : sat s t (i + t.length) = sat s t i := by
  rw [sat_ge h, sat_ge (by omega), show i + t.length - s.length = i - s.length + t.length by omega, cyc_add]
/-- x goes on by p from m on -/
def Per (x : Nat → Nat) (m p : Nat) : Prop := ∀ i, m ≤ i → x (i + p) = x i
theorem Per.mul {x : Nat → Nat} {m p : Nat} (h : Per x m p) : ∀ k : Nat, Per x m (p * k)
  | 0 => fun i _ => by rw [Nat.mul_zero, Nat.add_zero]
  | k + 1 => fun i hi => by
    rw [Nat.mul_succ, ← Nat.add_assoc, h _ (by omega), Per.mul h k i hi]
theorem Per.sub {x : Nat → Nat} {m p q : Nat} (h : Per x m p) (k : Per x m q) (hpq : p ≤ q) : Per x m (q - p) := fun i hi => by
  rw [← h (i + (q - p)) (by omega), show i + (q - p) + p = i + q by omega, k i hi]
theorem Per.mod {x : Nat → Nat} {m p q : Nat} (h : Per x m p) (k : Per x m q) : Per x m (q % p) := by
  have e : q % p = q - p * (q / p) := by
    have := Nat.div_add_mod q p
    omega
  rw [e]
  exact Per.sub (h.mul _) k (Nat.mul_div_le q p)
theorem Per.gcd {x : Nat → Nat} {m : Nat} : ∀ (p q : Nat), Per x m p → Per x m q → Per x m (Nat.gcd p q) := by
  intro p q
  induction p, q using Nat.gcd.induction with
  | H0 n => intro _ k; rw [Nat.gcd_zero_left]; exact k
  | H1 a b _ ih =>
    intro h k
    rw [Nat.gcd_rec]
    exact ih (h.mod k) h
theorem Per.le {x : Nat → Nat} {m m' p : Nat} (h : Per x m p) (hm : m ≤ m') : Per x m' p := fun i hi => h i (by omega)
theorem per_sat {s t : List Nat} : Per (sat s t) s.length t.length := fun i hi => sat_per hi
/-- the shorter period of what is behind m is a period of t -/
theorem prim_le {s t : List Nat} {m g : Nat} (ht : t ≠ []) (h : Prim t) (hg : 0 < g) (hd : g ∣ t.length) (hp : Per (sat s t) m g) : g = t.length := by
  have hl : 0 < t.length := List.length_pos_iff.mpr ht
  rcases Nat.lt_or_ge g t.length with hlt | hge
  · exfalso
    refine h g hg hlt hd fun i => ?_
    have e1 : cyc t (i + g) = sat s t (s.length + (i + g + t.length * m)) := by rw [sat_add, cyc_mul]
    have e2 : cyc t i = sat s t (s.length + (i + t.length * m)) := by rw [sat_add, cyc_mul]
    have hm : m ≤ t.length * m := Nat.le_mul_of_pos_left m hl
    rw [e1, e2, show s.length + (i + g + t.length * m) = s.length + (i + t.length * m) + g by omega]
    exact hp _ (by omega)
  · exact Nat.le_antisymm (Nat.le_of_dvd hl hd) hge
theorem getLast_getD {s : List Nat} (h : s ≠ []) : s.getLast? = some (s.getD (s.length - 1) 0) := by
  have hl : 0 < s.length := List.length_pos_iff.mpr h
  rw [List.getLast?_eq_getElem?, List.getD_eq_getElem?_getD, List.getElem?_eq_getElem (show s.length - 1 < s.length by omega)]
  rfl
theorem last_sat {s t : List Nat} (ht : t ≠ []) : t.getLast? = some (sat s t (s.length + t.length - 1)) := by
  have hl : 0 < t.length := List.length_pos_iff.mpr ht
  rw [getLast_getD ht, show s.length + t.length - 1 = s.length + (t.length - 1) by omega, sat_add, cyc_lt (by omega)]
theorem norm_len {s t s' t' : List Nat} (ht : t ≠ []) (ht' : t' ≠ []) (hn : Norm s' t') (hp : t.length = t'.length) (e : ∀ i, sat s t i = sat s' t' i) : s'.length ≤ s.length := by
  rcases Nat.lt_or_ge s.length s'.length with h | h
  · exfalso
    have hne : s' ≠ [] := by
      intro z
      rw [z] at h
      simp at h
    rcases hn with z | z
    · exact hne z
    · refine z ?_
      rw [getLast_getD hne, last_sat (s := s') ht', ← sat_lt (s := s') (t := t') (i := s'.length - 1) (by omega), ← e, ← e, show s'.length + t'.length - 1 = s'.length - 1 + t.length by omega, sat_per (by omega)]
  · exact h
theorem ext_getD {s s' : List Nat} (hl : s.length = s'.length) (h : ∀ i, i < s.length → s.getD i 0 = s'.getD i 0) : s = s' := by
  refine List.ext_getElem hl fun i h1 h2 => ?_
  have := h i h1
  rw [List.getD_eq_getElem?_getD, List.getD_eq_getElem?_getD, List.getElem?_eq_getElem h1, List.getElem?_eq_getElem h2] at this
  simpa using this
/-- a normal word is told by what it says -/
theorem uniq {s t s' t' : List Nat} (ht : t ≠ []) (ht' : t' ≠ []) (hp : Prim t) (hp' : Prim t') (hn : Norm s t) (hn' : Norm s' t') (e : ∀ i, sat s t i = sat s' t' i) : s = s' ∧ t = t' := by
  have ex : sat s t = sat s' t' := funext e
  have hl : 0 < t.length := List.length_pos_iff.mpr ht
  have hl' : 0 < t'.length := List.length_pos_iff.mpr ht'
  have p1 : Per (sat s t) (max s.length s'.length) t.length := per_sat.le (Nat.le_max_left _ _)
  have p2 : Per (sat s t) (max s.length s'.length) t'.length := by
    rw [ex]
    exact per_sat.le (Nat.le_max_right _ _)
  have pg := Per.gcd _ _ p1 p2
  have hg : 0 < Nat.gcd t.length t'.length := Nat.gcd_pos_of_pos_left _ hl
  have e1 := prim_le ht hp hg (Nat.gcd_dvd_left _ _) pg
  have e2 := prim_le ht' hp' hg (Nat.gcd_dvd_right _ _) (by rw [ex] at pg; exact pg)
  have et : t.length = t'.length := by rw [← e1, e2]
  have l1 := norm_len ht ht' hn' et e
  have l2 := norm_len ht' ht hn et.symm fun i => (e i).symm
  have es : s.length = s'.length := Nat.le_antisymm l2 l1
  refine ⟨ext_getD es fun i hi => ?_, ext_getD et fun i hi => ?_⟩
  · have := e i
    rw [sat_lt hi, sat_lt (by omega)] at this
    exact this
  · have := e (s.length + i)
    rw [sat_add, es, sat_add, cyc_lt hi, cyc_lt (by omega)] at this
    exact this
/-- what says the same for long says the same -/
theorem agree {s t s' t' : List Nat} {n : Nat} (ht : t ≠ []) (ht' : t' ≠ []) (hn : max s.length s'.length + t.length * t'.length ≤ n) (e : ∀ i, i < n → sat s t i = sat s' t' i) (i : Nat) : sat s t i = sat s' t' i := by
  have hl : 0 < t.length := List.length_pos_iff.mpr ht
  have hl' : 0 < t'.length := List.length_pos_iff.mpr ht'
  have hm : 0 < t.length * t'.length := Nat.mul_pos hl hl'
  induction i using Nat.strongRecOn with
  | ind i ih =>
    rcases Nat.lt_or_ge i n with h | h
    · exact e i h
    · have p1 : Per (sat s t) s.length (t.length * t'.length) := per_sat.mul _
      have p2 : Per (sat s' t') s'.length (t.length * t'.length) := by
        rw [Nat.mul_comm]
        exact per_sat.mul _
      have k := ih (i - t.length * t'.length) (by omega)
      have h1 : s.length ≤ max s.length s'.length := Nat.le_max_left _ _
      have h2 : s'.length ≤ max s.length s'.length := Nat.le_max_right _ _
      rw [← p1 (i - t.length * t'.length) (by omega), ← p2 (i - t.length * t'.length) (by omega), Nat.sub_add_cancel (by omega)] at k
      exact k

/-! the shortest round -/
/-- k cuts t into equal pieces -/
def perB (t : List Nat) (k : Nat) : Bool := t.length % k == 0 && (List.replicate (t.length / k) (t.take k)).flatten == t
theorem flat_get (u : List Nat) (hu : u ≠ []) : ∀ (n i : Nat), i < n * u.length → (List.replicate n u).flatten.getD i 0 = cyc u i
  | 0, i, h => by omega
  | n + 1, i, h => by
    have hl : 0 < u.length := List.length_pos_iff.mpr hu
    rw [List.replicate_succ, List.flatten_cons]
    rcases Nat.lt_or_ge i u.length with k | k
    · rw [List.getD_eq_getElem?_getD, List.getElem?_append_left k, cyc_lt k, List.getD_eq_getElem?_getD]
    · rw [List.getD_eq_getElem?_getD, List.getElem?_append_right k, ← List.getD_eq_getElem?_getD, flat_get u hu n (i - u.length) (by rw [Nat.succ_mul] at h; omega)]
      have e := cyc_add u (i - u.length)
      rw [Nat.sub_add_cancel k] at e
      exact e.symm
theorem flat_len (u : List Nat) (n : Nat) : (List.replicate n u).flatten.length = n * u.length := by
  simp
theorem perB_iff {t : List Nat} {k : Nat} (hk : 0 < k) (hkt : k ≤ t.length) : perB t k = true ↔ k ∣ t.length ∧ ∀ i, cyc t (i + k) = cyc t i := by
  have hne : t.take k ≠ [] := by
    intro z
    have := congrArg List.length z
    rw [List.length_take, List.length_nil] at this
    omega
  have hlk : (t.take k).length = k := by rw [List.length_take]; omega
  have getT : ∀ i, i < k → (t.take k).getD i 0 = t.getD i 0 := fun i hi => by
    rw [List.getD_eq_getElem?_getD, List.getElem?_take_of_lt hi, List.getD_eq_getElem?_getD]
  unfold perB
  rw [Bool.and_eq_true_iff, beq_iff_eq, beq_iff_eq]
  constructor
  · rintro ⟨h1, h2⟩
    have hd : k ∣ t.length := Nat.dvd_of_mod_eq_zero h1
    refine ⟨hd, ?_⟩
    have key : ∀ i, cyc t i = cyc (t.take k) i := fun i => by
      have hi : i % t.length < t.length := Nat.mod_lt _ (by omega)
      have h3 : t.getD (i % t.length) 0 = (List.replicate (t.length / k) (t.take k)).flatten.getD (i % t.length) 0 := by rw [h2]
      rw [← cyc_mod t i, cyc_lt hi, h3]
      rw [flat_get _ hne _ _ (by rw [hlk, Nat.div_mul_cancel hd]; exact hi)]
      unfold cyc
      rw [hlk, Nat.mod_mod_of_dvd _ hd]
    intro i
    rw [key, key]
    have := cyc_add (t.take k) i
    rw [hlk] at this
    exact this
  · rintro ⟨hd, h⟩
    refine ⟨Nat.mod_eq_zero_of_dvd hd, ?_⟩
    have hp : Per (cyc t) 0 k := fun i _ => h i
    refine ext_getD (by rw [flat_len, hlk, Nat.div_mul_cancel hd]) fun i hi => ?_
    rw [flat_len, hlk, Nat.div_mul_cancel hd] at hi
    rw [flat_get _ hne _ _ (by rw [hlk, Nat.div_mul_cancel hd]; exact hi)]
    have hm : i % k < k := Nat.mod_lt _ hk
    unfold cyc
    rw [hlk, getT _ hm, ← cyc_lt (show i % k < t.length by omega), ← cyc_lt hi]
    have := (hp.mul (i / k)) (i % k) (Nat.zero_le _)
    rw [Nat.mod_add_div] at this
    exact this.symm
def firstPer (t : List Nat) : Nat := ((List.range' 1 t.length).find? (perB t)).getD t.length
def shortestL (t : List Nat) : List Nat := t.take (firstPer t)
theorem perB_full {t : List Nat} (h : t ≠ []) : perB t t.length = true := by
  have hl : 0 < t.length := List.length_pos_iff.mpr h
  exact (perB_iff hl (Nat.le_refl _)).mpr ⟨Nat.dvd_refl _, fun i => cyc_add t i⟩
theorem firstPer_spec {t : List Nat} (h : t ≠ []) : 0 < firstPer t ∧ firstPer t ≤ t.length ∧ perB t (firstPer t) = true ∧ ∀ j, 0 < j → j < firstPer t → perB t j = false := by
  have hl : 0 < t.length := List.length_pos_iff.mpr h
  unfold firstPer
  cases e : (List.range' 1 t.length).find? (perB t) with
  | none =>
    have := List.find?_eq_none.mp e t.length (by rw [List.mem_range'_1]; omega)
    exact (this (perB_full h)).elim
  | some k =>
    have h1 := List.find?_some e
    have h2 := List.mem_of_find?_eq_some e
    rw [List.mem_range'_1] at h2
    refine ⟨by show 0 < k; omega, by show k ≤ _; omega, h1, fun j hj hjk => ?_⟩
    have hjk : j < k := hjk
    obtain ⟨_, as, bs, hab, hn⟩ := List.find?_eq_some_iff_append.mp e
    have hk : j ∈ as := by
      have hmem : j ∈ as ++ k :: bs := by
        rw [← hab, List.mem_range'_1]
        omega
      rcases List.mem_append.mp hmem with q | q
      · exact q
      · exfalso
        have hs : (as ++ k :: bs).Pairwise (· < ·) := by
          rw [← hab]
          exact List.pairwise_lt_range'
        have := (List.pairwise_append.mp hs).2.1
        rcases List.mem_cons.mp q with q | q
        · omega
        · have := (List.pairwise_cons.mp this).1 j q
          omega
    have := hn j hk
    simpa using this
theorem shortest_len {t : List Nat} (h : t ≠ []) : (shortestL t).length = firstPer t := by
  unfold shortestL
  rw [List.length_take]
  have := (firstPer_spec h).2.1
  omega
theorem shortest_ne {t : List Nat} (h : t ≠ []) : shortestL t ≠ [] := by
  intro z
  have e := shortest_len h
  rw [z] at e
  have := (firstPer_spec h).1
  simp at e
  omega
theorem shortest_cyc {t : List Nat} (h : t ≠ []) (i : Nat) : cyc (shortestL t) i = cyc t i := by
  obtain ⟨h1, h2, h3, _⟩ := firstPer_spec h
  obtain ⟨hd, hc⟩ := (perB_iff h1 h2).mp h3
  have hp : Per (cyc t) 0 (firstPer t) := fun i _ => hc i
  have hm : i % firstPer t < firstPer t := Nat.mod_lt _ h1
  have e1 : cyc t i = cyc t (i % firstPer t) := by
    have := (hp.mul (i / firstPer t)) (i % firstPer t) (Nat.zero_le _)
    rw [Nat.mod_add_div] at this
    exact this
  rw [e1]
  unfold cyc
  rw [shortest_len h, Nat.mod_eq_of_lt (show i % firstPer t < t.length by omega)]
  unfold shortestL
  rw [List.getD_eq_getElem?_getD, List.getElem?_take_of_lt hm, List.getD_eq_getElem?_getD]
theorem shortest_prim {t : List Nat} (h : t ≠ []) : Prim (shortestL t) := by
  intro j h1 h2 h3 h4
  rw [shortest_len h] at h2 h3
  obtain ⟨_, q2, q3, q4⟩ := firstPer_spec h
  obtain ⟨hd, _⟩ := (perB_iff (firstPer_spec h).1 q2).mp q3
  have := q4 j h1 h2
  rw [(perB_iff h1 (by omega)).mpr ⟨Nat.dvd_trans h3 hd, fun i => by rw [← shortest_cyc h, ← shortest_cyc h]; exact h4 i⟩] at this
  cases this
theorem sat_shortest {s t : List Nat} (h : t ≠ []) (i : Nat) : sat s (shortestL t) i = sat s t i := by
  unfold sat
  split
  · rfl
  · exact shortest_cyc h _

/-! the last sign of the start, where it is the round's too -/
theorem last_split {s : List Nat} {c : Nat} (h : s.getLast? = some c) : s = s.dropLast ++ [c] := by
  have hne : s ≠ [] := by
    intro z
    rw [z] at h
    cases h
  rw [List.getLast?_eq_some_getLast hne] at h
  cases h
  exact (List.dropLast_concat_getLast hne).symm
theorem turn_sat {s t : List Nat} {c : Nat} (hs : s.getLast? = some c) (ht : t.getLast? = some c) (i : Nat) : sat s.dropLast (c :: t.dropLast) i = sat s t i := by
  have es := last_split hs
  have et := last_split ht
  generalize s.dropLast = s0 at *
  generalize t.dropLast = t0 at *
  subst es et
  have hlen : (c :: t0).length = (t0 ++ [c]).length := by simp
  have hc : ∀ k, cyc (c :: t0) (k + 1) = cyc (t0 ++ [c]) k := fun k => by
    unfold cyc
    rw [hlen]
    have hp : 0 < (t0 ++ [c]).length := by simp
    have hk : k % (t0 ++ [c]).length < (t0 ++ [c]).length := Nat.mod_lt _ hp
    have e : (k + 1) % (t0 ++ [c]).length = if k % (t0 ++ [c]).length + 1 = (t0 ++ [c]).length then 0 else k % (t0 ++ [c]).length + 1 := by
      rw [Nat.add_mod]
      split
      · rename_i hq
        rcases Nat.lt_or_ge 1 (t0 ++ [c]).length with h1 | h1
        · rw [Nat.mod_eq_of_lt h1, hq, Nat.mod_self]
        · have : (t0 ++ [c]).length = 1 := by omega
          rw [this, Nat.mod_one]
      · rename_i hq
        have h1 : 1 < (t0 ++ [c]).length := by omega
        rw [Nat.mod_eq_of_lt h1, Nat.mod_eq_of_lt (by omega)]
    rw [e]
    have hlt0 : (t0 ++ [c]).length = t0.length + 1 := by simp
    split
    · rename_i hq
      rw [show k % (t0 ++ [c]).length = t0.length by omega, List.getD_eq_getElem?_getD, List.getD_eq_getElem?_getD, List.getElem?_append_right (Nat.le_refl _), Nat.sub_self]
      rfl
    · rename_i hq
      rw [List.getD_eq_getElem?_getD, List.getD_eq_getElem?_getD, List.getElem?_cons_succ, List.getElem?_append_left (by omega)]
  rcases Nat.lt_trichotomy i s0.length with h | h | h
  · rw [sat_lt h, sat_lt (by simp; omega), List.getD_eq_getElem?_getD, List.getD_eq_getElem?_getD, List.getElem?_append_left h]
  · subst h
    rw [sat_ge (Nat.le_refl _), Nat.sub_self, sat_lt (by simp), List.getD_eq_getElem?_getD, List.getElem?_append_right (Nat.le_refl _), Nat.sub_self]
    unfold cyc
    simp
  · rw [sat_ge (by omega), sat_ge (by simp; omega), show i - s0.length = i - (s0 ++ [c]).length + 1 by simp; omega, hc]
theorem turn_prim {t : List Nat} {c : Nat} (ht : t.getLast? = some c) (h : Prim t) : Prim (c :: t.dropLast) := by
  have et := last_split ht
  have hlen : (c :: t.dropLast).length = t.length := by
    conv => rhs; rw [et]
    simp
  intro j h1 h2 h3 h4
  rw [hlen] at h2 h3
  refine h j h1 h2 h3 fun i => ?_
  have key : ∀ k, cyc t k = cyc (c :: t.dropLast) (k + 1) := fun k => by
    have a := turn_sat (s := [c]) (t := t) rfl ht (k + 1)
    have b : sat [c] t (1 + k) = cyc t k := sat_add (s := [c]) k
    have d : sat [] (c :: t.dropLast) (0 + (k + 1)) = cyc (c :: t.dropLast) (k + 1) := sat_add (s := []) (k + 1)
    rw [Nat.zero_add] at d
    rw [← b, ← d, Nat.add_comm 1 k]
    exact a.symm
  rw [key, key, show i + j + 1 = i + 1 + j by omega]
  exact h4 _
/-- the loop of normal_of, by the start's length -/
def turnL : Nat → List Nat → List Nat → List Nat × List Nat
  | 0, s, t => (s, t)
  | n + 1, s, t => match s.getLast?, t.getLast? with
    | some c, some d => if c = d then turnL n s.dropLast (d :: t.dropLast) else (s, t)
    | _, _ => (s, t)
def normL (s t : List Nat) : List Nat × List Nat := turnL s.length s (shortestL t)
theorem turnL_spec : ∀ (n : Nat) (s t : List Nat), s.length = n → t ≠ [] → Prim t → (∀ i, sat (turnL n s t).1 (turnL n s t).2 i = sat s t i) ∧ Prim (turnL n s t).2 ∧ Norm (turnL n s t).1 (turnL n s t).2 ∧ (turnL n s t).2.length = t.length ∧ (turnL n s t).1.length ≤ s.length ∧
    (∀ c ∈ (turnL n s t).1, c ∈ s) ∧ (∀ c ∈ (turnL n s t).2, c ∈ t)
  | 0, s, t, hs, ht, hp => by
    have : s = [] := List.length_eq_zero_iff.mp hs
    subst this
    exact ⟨fun _ => rfl, hp, .inl rfl, rfl, Nat.le_refl _, fun _ h => h, fun _ h => h⟩
  | n + 1, s, t, hs, ht, hp => by
    unfold turnL
    cases e1 : s.getLast? with
    | none =>
      rw [List.getLast?_eq_none_iff.mp e1] at hs
      simp at hs
    | some c =>
      cases e2 : t.getLast? with
      | none => exact (ht (List.getLast?_eq_none_iff.mp e2)).elim
      | some d =>
        simp only
        by_cases h : c = d
        · subst h
          rw [if_pos rfl]
          have hl : s.dropLast.length = n := by rw [List.length_dropLast]; omega
          have hlt : (c :: t.dropLast).length = t.length := by
            conv => rhs; rw [last_split e2]
            simp
          obtain ⟨h1, h2, h3, h4, h5, h6, h7⟩ := turnL_spec n s.dropLast (c :: t.dropLast) hl (by simp) (turn_prim e2 hp)
          refine ⟨fun i => (h1 i).trans (turn_sat e1 e2 i), h2, h3, h4.trans hlt, by rw [List.length_dropLast] at h5; omega, fun x hx => List.dropLast_subset _ (h6 x hx), fun x hx => ?_⟩
          rcases List.mem_cons.mp (h7 x hx) with q | q
          · rw [q]
            exact List.mem_of_getLast? e2
          · exact List.dropLast_subset _ q
        · rw [if_neg h]
          refine ⟨fun _ => rfl, hp, .inr ?_, rfl, Nat.le_refl _, fun _ h => h, fun _ h => h⟩
          show s.getLast? ≠ t.getLast?
          rw [e1, e2]
          exact fun z => h (Option.some.inj z)
structure IsNorm (s t s' t' : List Nat) : Prop where
  sat : ∀ i, WT.sat s' t' i = WT.sat s t i
  prim : Prim t'
  norm : Norm s' t'
  ne : t' ≠ []
  lt : t'.length ≤ t.length
  ls : s'.length ≤ s.length
  ms : ∀ c ∈ s', c ∈ s
  mt : ∀ c ∈ t', c ∈ t
theorem normL_spec {s t : List Nat} (h : t ≠ []) : IsNorm s t (normL s t).1 (normL s t).2 := by
  obtain ⟨h1, h2, h3, h4, h5, h6, h7⟩ := turnL_spec s.length s (shortestL t) rfl (shortest_ne h) (shortest_prim h)
  have hle : (shortestL t).length ≤ t.length := by rw [shortest_len h]; exact (firstPer_spec h).2.1
  exact ⟨fun i => (h1 i).trans (sat_shortest h i), h2, h3, by
    intro z
    have : (turnL s.length s (shortestL t)).2 = [] := z
    rw [this] at h4
    exact shortest_ne h (List.length_eq_zero_iff.mp h4.symm), by unfold normL; omega, h5, h6, fun c hc => List.mem_of_mem_take (h7 c hc)⟩
/-- words that say the same for long have one normal form -/
theorem norm_eq {s t s' t' : List Nat} (h : t ≠ []) (h' : t' ≠ []) {n : Nat} (hn : max s.length s'.length + t.length * t'.length ≤ n) (e : ∀ i, i < n → sat s t i = sat s' t' i) : normL s t = normL s' t' := by
  have a := normL_spec (s := s) h
  have b := normL_spec (s := s') h'
  have k := uniq a.ne b.ne a.prim b.prim a.norm b.norm fun i => by rw [a.sat, b.sat]; exact agree h h' hn e i
  exact Prod.ext k.1 k.2
theorem sat_of_norm {s t s' t' : List Nat} (h : t ≠ []) (h' : t' ≠ []) (e : normL s t = normL s' t') (i : Nat) : sat s t i = sat s' t' i := by
  rw [← (normL_spec (s := s) h).sat, e, (normL_spec (s := s') h').sat]
/-- the text of the first n beats -/
def txt (s t : List Nat) (n : Nat) : List Nat := (List.range n).map (sat s t)
theorem txt_eq {s t s' t' : List Nat} {n : Nat} : txt s t n = txt s' t' n ↔ ∀ i, i < n → sat s t i = sat s' t' i := by
  unfold txt
  constructor
  · intro h i hi
    have := congrArg (fun l => l[i]?) h
    simpa [hi] using this
  · exact fun h => List.map_congr_left fun i hi => h i (List.mem_range.mp hi)
end WT

namespace WT
/-! how many of the first n are ones -/
def cnt (s t : List Nat) (n : Nat) : Nat := (txt s t n).count 49
theorem txt_len (s t : List Nat) (n : Nat) : (txt s t n).length = n := by
  unfold txt
  rw [List.length_map, List.length_range]
theorem txt_get {s t : List Nat} {n i : Nat} (h : i < n) : (txt s t n)[i]? = some (sat s t i) := by
  unfold txt
  rw [List.getElem?_map, List.getElem?_range h]
  rfl
theorem txt_succ (s t : List Nat) (n : Nat) : txt s t (n + 1) = txt s t n ++ [sat s t n] := by
  unfold txt
  rw [List.range_succ, List.map_append]
  rfl
theorem txt_take {s t : List Nat} {n m : Nat} (h : n ≤ m) : (txt s t m).take n = txt s t n := by
  unfold txt
  rw [← List.map_take, List.take_range, Nat.min_eq_left h]
theorem txt_add (s t : List Nat) (a : Nat) : ∀ b : Nat, txt s t (a + b) = txt s t a ++ (List.range b).map fun i => sat s t (a + i)
  | 0 => by simp
  | b + 1 => by
    rw [← Nat.add_assoc, txt_succ, txt_add s t a b, List.range_succ, List.map_append, List.append_assoc]
    rfl
theorem txt_start {s t : List Nat} : txt s t s.length = s := by
  refine List.ext_getElem? fun i => ?_
  rcases Nat.lt_or_ge i s.length with h | h
  · rw [txt_get h, sat_lt h, List.getD_eq_getElem?_getD, List.getElem?_eq_getElem h]
    rfl
  · rw [List.getElem?_eq_none (by rw [txt_len]; exact h), List.getElem?_eq_none h]
theorem cyc_take {t : List Nat} {b : Nat} (h : b ≤ t.length) : (List.range b).map (cyc t) = t.take b := by
  refine List.ext_getElem? fun i => ?_
  rcases Nat.lt_or_ge i b with k | k
  · rw [List.getElem?_map, List.getElem?_range k, List.getElem?_take_of_lt k, List.getElem?_eq_getElem (show i < t.length by omega)]
    show some (cyc t i) = _
    rw [cyc_lt (by omega), List.getD_eq_getElem?_getD, List.getElem?_eq_getElem (show i < t.length by omega)]
    rfl
  · rw [List.getElem?_eq_none (by simp; exact k), List.getElem?_eq_none (by rw [List.length_take]; omega)]
theorem cyc_count {t : List Nat} : ∀ (q r : Nat), r ≤ t.length → ((List.range (q * t.length + r)).map (cyc t)).count 49 = q * t.count 49 + (t.take r).count 49
  | 0, r, h => by rw [Nat.zero_mul, Nat.zero_add, Nat.zero_mul, Nat.zero_add, cyc_take h]
  | q + 1, r, h => by
    have e : (List.range ((q + 1) * t.length + r)).map (cyc t) = t ++ (List.range (q * t.length + r)).map (cyc t) := by
      rw [show (q + 1) * t.length + r = t.length + (q * t.length + r) by rw [Nat.succ_mul]; omega, List.range_add, List.map_append, cyc_take (Nat.le_refl _), List.take_length, List.map_map]
      refine congrArg (t ++ ·) (List.map_congr_left fun i _ => ?_)
      show cyc t (t.length + i) = _
      rw [Nat.add_comm, cyc_add]
    rw [e, List.count_append, cyc_count q r h, Nat.succ_mul]
    omega
theorem cnt_lo {s t : List Nat} {n : Nat} (h : n ≤ s.length) : cnt s t n = (s.take n).count 49 := by
  unfold cnt
  rw [← txt_take h, txt_start]
theorem cnt_hi {s t : List Nat} (q r : Nat) (h : r ≤ t.length) : cnt s t (s.length + (q * t.length + r)) = s.count 49 + q * t.count 49 + (t.take r).count 49 := by
  unfold cnt
  rw [txt_add, List.count_append, txt_start]
  have e : ((List.range (q * t.length + r)).map fun i => sat s t (s.length + i)) = (List.range (q * t.length + r)).map (cyc t) := List.map_congr_left fun i _ => sat_add i
  rw [e, cyc_count q r h]
  omega
/-- the program's formula -/
def onesF (s t : List Nat) (n : Nat) : Nat := if n ≤ s.length then (s.take n).count 49 else s.count 49 + (n - s.length) / t.length * t.count 49 + (t.take ((n - s.length) % t.length)).count 49
theorem onesF_eq {s t : List Nat} (ht : t ≠ []) (n : Nat) : onesF s t n = cnt s t n := by
  have hl : 0 < t.length := List.length_pos_iff.mpr ht
  unfold onesF
  split
  · rename_i h
    exact (cnt_lo h).symm
  · rename_i h
    have e : n = s.length + ((n - s.length) / t.length * t.length + (n - s.length) % t.length) := by
      have := Nat.div_add_mod (n - s.length) t.length
      rw [Nat.mul_comm] at this
      omega
    conv => rhs; rw [e]
    exact (cnt_hi _ _ (Nat.le_of_lt (Nat.mod_lt _ hl))).symm

/-! the places of the ones -/
def spotsFrom : Nat → List Nat → List Nat
  | _, [] => []
  | a, c :: l => if c = 49 then (a + 1) :: spotsFrom (a + 1) l else spotsFrom (a + 1) l
def spotsL (l : List Nat) : List Nat := spotsFrom 0 l
theorem spotsFrom_len : ∀ (a : Nat) (l : List Nat), (spotsFrom a l).length = l.count 49
  | _, [] => rfl
  | a, c :: l => by
    unfold spotsFrom
    by_cases h : c = 49
    · rw [if_pos h, h, List.length_cons, spotsFrom_len, List.count_cons_self]
    · rw [if_neg h, spotsFrom_len, List.count_cons_of_ne (by simpa using h)]
theorem spotsFrom_get : ∀ (a : Nat) (l : List Nat) (r p : Nat), (spotsFrom a l)[r]? = some p ↔ a < p ∧ l[p - a - 1]? = some 49 ∧ (l.take (p - a)).count 49 = r + 1
  | a, [], r, p => by simp [spotsFrom]
  | a, c :: l, r, p => by
    unfold spotsFrom
    by_cases h : c = 49
    · rw [if_pos h]
      subst h
      cases r with
      | zero =>
        rw [List.getElem?_cons_zero]
        constructor
        · intro e
          cases e
          refine ⟨by omega, ?_, ?_⟩
          · rw [show a + 1 - a - 1 = 0 by omega]
            rfl
          · rw [show a + 1 - a = 1 by omega]
            rfl
        · rintro ⟨h1, h2, h3⟩
          rcases Nat.lt_or_ge (a + 1) p with q | q
          · exfalso
            obtain ⟨k, hk⟩ : ∃ k, p - a = k + 2 := ⟨p - a - 2, by omega⟩
            rw [hk] at h2 h3
            rw [List.take_succ_cons, List.count_cons_self] at h3
            have h2 : l[k]? = some 49 := by simpa using h2
            have h4 : List.count 49 (List.take (k + 1) l) = 0 := by omega
            have := List.count_eq_zero.mp h4
            exact this (List.mem_of_getElem? (i := k) (by rw [List.getElem?_take_of_lt (by omega)]; exact h2))
          · rw [show a + 1 = p by omega]
      | succ r =>
        rw [List.getElem?_cons_succ, spotsFrom_get (a + 1) l r p]
        constructor
        · rintro ⟨h1, h2, h3⟩
          obtain ⟨k, hk⟩ : ∃ k, p - a = k + 2 := ⟨p - a - 2, by omega⟩
          rw [show p - (a + 1) - 1 = k by omega] at h2
          rw [show p - (a + 1) = k + 1 by omega] at h3
          refine ⟨by omega, ?_, ?_⟩
          · rw [hk]
            simpa using h2
          · rw [hk, List.take_succ_cons, List.count_cons_self, h3]
        · rintro ⟨h1, h2, h3⟩
          rcases Nat.lt_or_ge (a + 1) p with q | q
          · obtain ⟨k, hk⟩ : ∃ k, p - a = k + 2 := ⟨p - a - 2, by omega⟩
            rw [hk] at h2 h3
            rw [List.take_succ_cons, List.count_cons_self] at h3
            refine ⟨q, ?_, ?_⟩
            · rw [show p - (a + 1) - 1 = k by omega]
              simpa using h2
            · rw [show p - (a + 1) = k + 1 by omega]
              omega
          · exfalso
            rw [show p - a = 1 by omega, List.take_succ_cons, List.count_cons_self] at h3
            simp at h3
    · rw [if_neg h, spotsFrom_get (a + 1) l r p]
      constructor
      · rintro ⟨h1, h2, h3⟩
        obtain ⟨k, hk⟩ : ∃ k, p - a = k + 2 := ⟨p - a - 2, by omega⟩
        rw [show p - (a + 1) - 1 = k by omega] at h2
        rw [show p - (a + 1) = k + 1 by omega] at h3
        refine ⟨by omega, ?_, ?_⟩
        · rw [hk]
          simpa using h2
        · rw [hk, List.take_succ_cons, List.count_cons_of_ne (by simpa using h), h3]
      · rintro ⟨h1, h2, h3⟩
        rcases Nat.lt_or_ge (a + 1) p with q | q
        · obtain ⟨k, hk⟩ : ∃ k, p - a = k + 2 := ⟨p - a - 2, by omega⟩
          rw [hk] at h2 h3
          rw [List.take_succ_cons, List.count_cons_of_ne (by simpa using h)] at h3
          refine ⟨q, ?_, ?_⟩
          · rw [show p - (a + 1) - 1 = k by omega]
            simpa using h2
          · rw [show p - (a + 1) = k + 1 by omega]
            omega
        · exfalso
          rw [show p - a = 1 by omega] at h2
          simp at h2
          exact h h2
theorem spots_iff {l : List Nat} {r p : Nat} : (spotsL l)[r]? = some p ↔ 0 < p ∧ l[p - 1]? = some 49 ∧ (l.take p).count 49 = r + 1 := by
  have := spotsFrom_get 0 l r p
  rw [Nat.sub_zero] at this
  exact this
theorem spots_len (l : List Nat) : (spotsL l).length = l.count 49 := spotsFrom_len 0 l
/-- the place of the n-th one (n from 1 on) -/
def placeF (s t : List Nat) (n : Nat) : Nat := if n ≤ (spotsL s).length then (spotsL s).getD (n - 1) 0 else
  s.length + (n - (spotsL s).length - 1) / (spotsL t).length * t.length + (spotsL t).getD ((n - (spotsL s).length - 1) % (spotsL t).length) 0
theorem getD_some {l : List Nat} {i : Nat} (h : i < l.length) : l[i]? = some (l.getD i 0) := by
  rw [List.getD_eq_getElem?_getD, List.getElem?_eq_getElem h]
  rfl
theorem spot_bound {l : List Nat} {r p : Nat} (h : (spotsL l)[r]? = some p) : 0 < p ∧ p ≤ l.length := by
  obtain ⟨h1, h2, _⟩ := spots_iff.mp h
  have := (List.getElem?_eq_some_iff.mp h2).1
  omega
theorem placeF_spec {s t : List Nat} {n : Nat} (hn : 0 < n) (h : n ≤ (spotsL s).length ∨ spotsL t ≠ []) : 0 < placeF s t n ∧ sat s t (placeF s t n - 1) = 49 ∧ cnt s t (placeF s t n) = n ∧ placeF s t n ≤ s.length + n * t.length := by
  unfold placeF
  by_cases hs : n ≤ (spotsL s).length
  · rw [if_pos hs]
    have e := getD_some (l := spotsL s) (i := n - 1) (by omega)
    generalize (spotsL s).getD (n - 1) 0 = p at *
    obtain ⟨h1, h2, h3⟩ := spots_iff.mp e
    have hp := (List.getElem?_eq_some_iff.mp h2).1
    refine ⟨h1, ?_, ?_, by omega⟩
    · rw [sat_lt hp, List.getD_eq_getElem?_getD, h2]
      rfl
    · rw [cnt_lo (by omega), h3]
      omega
  · rw [if_neg hs]
    have ht := h.resolve_left hs
    have hl : 0 < (spotsL t).length := List.length_pos_iff.mpr ht
    generalize hk : n - (spotsL s).length - 1 = k
    have hr : k % (spotsL t).length < (spotsL t).length := Nat.mod_lt _ hl
    have e := getD_some hr
    generalize (spotsL t).getD (k % (spotsL t).length) 0 = p at *
    obtain ⟨h1, h2, h3⟩ := spots_iff.mp e
    have hp := (List.getElem?_eq_some_iff.mp h2).1
    have hq : k / (spotsL t).length ≤ k := Nat.div_le_self _ _
    have hdm := Nat.div_add_mod k (spotsL t).length
    have hqt : k / (spotsL t).length * t.length ≤ k * t.length := Nat.mul_le_mul_right _ hq
    have hnt : k * t.length + t.length ≤ n * t.length := by
      rw [← Nat.succ_mul]
      exact Nat.mul_le_mul_right _ (by omega)
    refine ⟨by omega, ?_, ?_, by omega⟩
    · rw [show s.length + k / (spotsL t).length * t.length + p - 1 = s.length + (p - 1 + t.length * (k / (spotsL t).length)) by rw [Nat.mul_comm t.length]; omega, sat_add, cyc_mul, cyc_lt hp, List.getD_eq_getElem?_getD, h2]
      rfl
    · rw [Nat.add_assoc, cnt_hi _ _ (by omega), h3, ← spots_len s, ← spots_len t]
      rw [Nat.mul_comm] at hdm
      omega
/-- the n-th one in a long text -/
theorem place_txt {s t : List Nat} {n m : Nat} (hn : 0 < n) (h : n ≤ (spotsL s).length ∨ spotsL t ≠ []) (hm : placeF s t n ≤ m) : (spotsL (txt s t m))[n - 1]? = some (placeF s t n) := by
  obtain ⟨h1, h2, h3, _⟩ := placeF_spec (s := s) (t := t) hn h
  refine spots_iff.mpr ⟨h1, ?_, ?_⟩
  · rw [txt_get (by omega), h2]
  · rw [txt_take hm]
    show cnt s t (placeF s t n) = _
    omega
theorem spots_txt_none {s t : List Nat} (h : spotsL t = []) {m : Nat} (hm : s.length ≤ m) : (spotsL (txt s t m)).length = (spotsL s).length := by
  have hc : t.count 49 = 0 := by rw [← spots_len, h]; rfl
  rw [spots_len, spots_len]
  have e : m = s.length + (m - s.length) := by omega
  rw [e, txt_add, List.count_append, txt_start]
  have : ((List.range (m - s.length)).map fun i => sat s t (s.length + i)).count 49 = 0 := by
    refine List.count_eq_zero.mpr fun q => ?_
    obtain ⟨i, _, hi⟩ := List.mem_map.mp q
    rw [sat_add] at hi
    unfold cyc at hi
    rw [List.getD_eq_getElem?_getD] at hi
    cases e2 : t[i % t.length]? with
    | none => rw [e2] at hi; cases hi
    | some c =>
      rw [e2] at hi
      have hi : c = 49 := hi
      rw [hi] at e2
      exact List.count_eq_zero.mp hc (List.mem_of_getElem? e2)
  omega

/-! turned round -/
def flip (c : Nat) : Nat := if c = 49 then 48 else 49
theorem sat_flip {s t : List Nat} (ht : t ≠ []) (i : Nat) : sat (s.map flip) (t.map flip) i = flip (sat s t i) := by
  have key : ∀ (l : List Nat) (j : Nat), j < l.length → (l.map flip).getD j 0 = flip (l.getD j 0) := fun l j h => by
    rw [List.getD_eq_getElem?_getD, List.getD_eq_getElem?_getD, List.getElem?_map, List.getElem?_eq_getElem h]
    rfl
  have hl : 0 < t.length := List.length_pos_iff.mpr ht
  unfold sat
  rw [List.length_map]
  split
  · rename_i h
    exact key s i h
  · unfold cyc
    rw [List.length_map]
    exact key t _ (Nat.mod_lt _ hl)
theorem flip_flip {c : Nat} (h : c = 48 ∨ c = 49) : flip (flip c) = c := by
  rcases h with h | h <;> rw [h] <;> rfl
/-! the greatest common divisor, by rests -/
def gcdL : Nat → Nat → Nat → Nat
  | 0, a, _ => a
  | n + 1, a, b => if b = 0 then a else gcdL n b (a - a / b * b)
theorem gcdL_eq : ∀ (n a b : Nat), b < n → gcdL n a b = Nat.gcd a b
  | 0, a, b, h => by omega
  | n + 1, a, b, h => by
    unfold gcdL
    by_cases hb : b = 0
    · rw [if_pos hb, hb, Nat.gcd_zero_right]
    · rw [if_neg hb]
      have e : a - a / b * b = a % b := by
        have := Nat.div_add_mod a b
        rw [Nat.mul_comm] at this
        omega
      rw [e, gcdL_eq n b (a % b) (by have := Nat.mod_lt a (show 0 < b by omega); omega), Nat.gcd_comm b, ← Nat.gcd_rec, Nat.gcd_comm]
end WT

namespace WT
/-! normal words and what they say -/
structure NF (s t : List Nat) : Prop where
  ne : t ≠ []
  prim : Prim t
  norm : Norm s t
theorem NF.ext {s t s' t' : List Nat} (a : NF s t) (b : NF s' t') (e : ∀ i, sat s t i = sat s' t' i) : s = s' ∧ t = t' := uniq a.ne b.ne a.prim b.prim a.norm b.norm e
theorem nf_norm {s t : List Nat} (h : t ≠ []) : NF (normL s t).1 (normL s t).2 := by
  have a := normL_spec (s := s) h
  exact ⟨a.ne, a.prim, a.norm⟩
/-- the word that says x: a beats, then p again and again -/
def wS (x : Nat → Nat) (a : Nat) : List Nat := (List.range a).map x
def wT (x : Nat → Nat) (a p : Nat) : List Nat := (List.range p).map fun i => x (a + i)
theorem wS_len (x : Nat → Nat) (a : Nat) : (wS x a).length = a := by
  unfold wS
  rw [List.length_map, List.length_range]
theorem wT_len (x : Nat → Nat) (a p : Nat) : (wT x a p).length = p := by
  unfold wT
  rw [List.length_map, List.length_range]
theorem wT_ne (x : Nat → Nat) (a : Nat) {p : Nat} (h : 0 < p) : wT x a p ≠ [] := fun z => by
  have := wT_len x a p
  rw [z] at this
  simp at this
  omega
theorem mapr_getD (f : Nat → Nat) {n i : Nat} (h : i < n) : ((List.range n).map f).getD i 0 = f i := by
  rw [List.getD_eq_getElem?_getD, List.getElem?_map, List.getElem?_range h]
  rfl
theorem sat_w {x : Nat → Nat} {a p : Nat} (hp : 0 < p) (h : Per x a p) (i : Nat) : sat (wS x a) (wT x a p) i = x i := by
  unfold sat
  rw [wS_len]
  split
  · rename_i hi
    exact mapr_getD x hi
  · rename_i hi
    unfold cyc
    rw [wT_len]
    have hm : (i - a) % p < p := Nat.mod_lt _ hp
    unfold wT
    rw [mapr_getD (fun i => x (a + i)) hm]
    have k := h.mul ((i - a) / p) (a + (i - a) % p) (by omega)
    rw [show a + (i - a) % p + p * ((i - a) / p) = i by have := Nat.mod_add_div (i - a) p; omega] at k
    exact k.symm
def nfx (x : Nat → Nat) (a p : Nat) : List Nat × List Nat := normL (wS x a) (wT x a p)
theorem nfx_sat {x : Nat → Nat} {a p : Nat} (hp : 0 < p) (h : Per x a p) (i : Nat) : sat (nfx x a p).1 (nfx x a p).2 i = x i := ((normL_spec (s := wS x a) (wT_ne x a hp)).sat i).trans (sat_w hp h i)
theorem nfx_nf (x : Nat → Nat) (a : Nat) {p : Nat} (hp : 0 < p) : NF (nfx x a p).1 (nfx x a p).2 := nf_norm (wT_ne x a hp)
theorem nfx_len (x : Nat → Nat) (a : Nat) {p : Nat} (hp : 0 < p) : (nfx x a p).1.length ≤ a ∧ (nfx x a p).2.length ≤ p := by
  have k := normL_spec (s := wS x a) (wT_ne x a hp)
  have h1 := k.ls
  have h2 := k.lt
  rw [wS_len] at h1
  rw [wT_len] at h2
  exact ⟨h1, h2⟩
/-! the least of both rounds -/
theorem per_lcm {x : Nat → Nat} {m p q : Nat} (h : Per x m p) : Per x m (Nat.lcm p q) := by
  obtain ⟨k, hk⟩ := Nat.dvd_lcm_left p q
  rw [hk]
  exact h.mul k
theorem per_lcm' {x : Nat → Nat} {m p q : Nat} (h : Per x m q) : Per x m (Nat.lcm p q) := by
  rw [Nat.lcm_comm]
  exact per_lcm h
theorem lcm_pos {p q : Nat} (h : 0 < p) (k : 0 < q) : 0 < Nat.lcm p q := Nat.lcm_pos h k
theorem lcm_le {p q : Nat} (h : 0 < p) (k : 0 < q) : Nat.lcm p q ≤ p * q := Nat.le_of_dvd (Nat.mul_pos h k) (Nat.lcm_dvd_mul p q)
theorem per_two {x y : Nat → Nat} {f : Nat → Nat → Nat} {a b p q : Nat} (h : Per x a p) (k : Per y b q) : Per (fun i => f (x i) (y i)) (max a b) (Nat.lcm p q) := fun i hi => by
  show f (x (i + Nat.lcm p q)) (y (i + Nat.lcm p q)) = f (x i) (y i)
  rw [(per_lcm h) i (by omega), (per_lcm' k) i (by omega)]
/-! counting over a word -/
theorem cnt_zero (s t : List Nat) : cnt s t 0 = 0 := rfl
theorem cnt_succ (s t : List Nat) (n : Nat) : cnt s t (n + 1) = cnt s t n + if sat s t n = 49 then 1 else 0 := by
  unfold cnt
  rw [txt_succ, List.count_append]
  congr 1
  by_cases h : sat s t n = 49
  · rw [if_pos h, h]
    rfl
  · rw [if_neg h, List.count_cons_of_ne (by simpa using h)]
    rfl
theorem cnt_ext {s t s' t' : List Nat} (e : ∀ i, sat s t i = sat s' t' i) (n : Nat) : cnt s t n = cnt s' t' n := by
  unfold cnt
  rw [txt_eq.mpr fun i _ => e i]
theorem cnt_mono (s t : List Nat) {a b : Nat} (h : a ≤ b) : cnt s t a ≤ cnt s t b := by
  induction h with
  | refl => exact Nat.le_refl _
  | step _ ih =>
    rw [cnt_succ]
    omega
theorem cnt_turn {s t : List Nat} {a : Nat} (h : s.length ≤ a) (k : Nat) : cnt s t (a + t.length * k) = cnt s t a + k * t.count 49 := by
  rcases Nat.eq_zero_or_pos t.length with hz | hl
  · have : t = [] := List.length_eq_zero_iff.mp hz
    subst this
    simp
  · have e : a = s.length + ((a - s.length) / t.length * t.length + (a - s.length) % t.length) := by
      have := Nat.div_add_mod (a - s.length) t.length
      rw [Nat.mul_comm] at this
      omega
    have hr : (a - s.length) % t.length ≤ t.length := Nat.le_of_lt (Nat.mod_lt _ hl)
    generalize (a - s.length) / t.length = q at *
    generalize (a - s.length) % t.length = r at *
    rw [e, show s.length + (q * t.length + r) + t.length * k = s.length + ((q + k) * t.length + r) by rw [Nat.add_mul, Nat.mul_comm t.length k]; omega, cnt_hi _ _ hr, cnt_hi _ _ hr, Nat.add_mul]
    omega
/-! one word on the ones of another -/
def onX (s t s' t' : List Nat) (i : Nat) : Nat := if sat s t i = 49 then sat s' t' (cnt s t i) else 48
theorem on_per0 {s t s' t' : List Nat} (hz : t.count 49 = 0) (ht : t ≠ []) : Per (onX s t s' t') s.length t.length := fun i hi => by
  unfold onX
  rw [sat_per hi]
  have h : sat s t i ≠ 49 := fun q => by
    rw [sat_ge hi] at q
    unfold cyc at q
    have hl : 0 < t.length := List.length_pos_iff.mpr ht
    have hm : (i - s.length) % t.length < t.length := Nat.mod_lt _ hl
    rw [List.getD_eq_getElem?_getD, List.getElem?_eq_getElem hm] at q
    exact List.count_eq_zero.mp hz (by
      have q : t[(i - s.length) % t.length] = 49 := q
      rw [← q]
      exact List.getElem_mem hm)
  rw [if_neg h, if_neg h]
theorem on_per {s t s' t' : List Nat} {a k : Nat} (ha : s.length ≤ a) (hc : s'.length ≤ cnt s t a) (hk : t'.length ∣ k * t.count 49) : Per (onX s t s' t') a (t.length * k) := fun i hi => by
  unfold onX
  obtain ⟨m, hm⟩ := hk
  have e1 : sat s t (i + t.length * k) = sat s t i := per_sat.mul k i (by omega)
  have e2 : cnt s t (i + t.length * k) = cnt s t i + t'.length * m := by rw [cnt_turn (by omega), hm]
  rw [e1, e2]
  by_cases h : sat s t i = 49
  · rw [if_pos h, if_pos h]
    have := cnt_mono s t hi
    exact per_sat.mul m _ (by omega)
  · rw [if_neg h, if_neg h]
end WT

namespace WT
/-! who has had more ones -/
def G (s t s' t' : List Nat) (n : Nat) : Int := (cnt s t n : Int) - (cnt s' t' n : Int)
/-- by how many more in a common round -/
def drf (t t' : List Nat) : Int := ((Nat.lcm t.length t'.length / t.length * t.count 49 : Nat) : Int) - ((Nat.lcm t.length t'.length / t'.length * t'.count 49 : Nat) : Int)
theorem cnt_lcm {s t : List Nat} {L a : Nat} (h : s.length ≤ a) (hd : t.length ∣ L) (hl : 0 < t.length) : cnt s t (a + L) = cnt s t a + L / t.length * t.count 49 := by
  obtain ⟨k, rfl⟩ := hd
  rw [cnt_turn h, Nat.mul_div_cancel_left _ hl]
theorem G_turn {s t s' t' : List Nat} {a : Nat} (hs : s.length ≤ a) (hs' : s'.length ≤ a) (hl : 0 < t.length) (hl' : 0 < t'.length) : G s t s' t' (a + Nat.lcm t.length t'.length) = G s t s' t' a + drf t t' := by
  unfold G drf
  rw [cnt_lcm hs (Nat.dvd_lcm_left _ _) hl, cnt_lcm hs' (Nat.dvd_lcm_right _ _) hl']
  omega
theorem G_turns {s t s' t' : List Nat} {a : Nat} (hs : s.length ≤ a) (hs' : s'.length ≤ a) (hl : 0 < t.length) (hl' : 0 < t'.length) : ∀ k : Nat, G s t s' t' (a + Nat.lcm t.length t'.length * k) = G s t s' t' a + drf t t' * k
  | 0 => by simp
  | k + 1 => by
    rw [Nat.mul_succ, ← Nat.add_assoc, G_turn (by omega) (by omega) hl hl', G_turns hs hs' hl hl' k]
    rw [show ((k + 1 : Nat) : Int) = (k : Int) + 1 by omega, Int.mul_add, Int.mul_one]
    omega
theorem G_zero (s t s' t' : List Nat) : G s t s' t' 0 = 0 := rfl
/-- where the drift is not upward, all is seen in the first common round -/
theorem G_bound {s t s' t' : List Nat} (hl : 0 < t.length) (hl' : 0 < t'.length) (hd : drf t t' ≤ 0) (n : Nat) : ∃ m, m ≤ max s.length s'.length + Nat.lcm t.length t'.length ∧ G s t s' t' n ≤ G s t s' t' m := by
  have hL := lcm_pos hl hl'
  rcases Nat.lt_or_ge n (max s.length s'.length) with h | h
  · exact ⟨n, by omega, Int.le_refl _⟩
  · have e : n = max s.length s'.length + (n - max s.length s'.length) % Nat.lcm t.length t'.length + Nat.lcm t.length t'.length * ((n - max s.length s'.length) / Nat.lcm t.length t'.length) := by
      have := Nat.mod_add_div (n - max s.length s'.length) (Nat.lcm t.length t'.length)
      omega
    have hm : (n - max s.length s'.length) % Nat.lcm t.length t'.length < Nat.lcm t.length t'.length := Nat.mod_lt _ hL
    generalize (n - max s.length s'.length) / Nat.lcm t.length t'.length = k at *
    generalize (n - max s.length s'.length) % Nat.lcm t.length t'.length = r at *
    refine ⟨max s.length s'.length + r, by omega, ?_⟩
    rw [e, G_turns (by omega) (by omega) hl hl']
    have hk : drf t t' * (k : Int) ≤ 0 := Int.mul_nonpos_of_nonpos_of_nonneg hd (by omega)
    omega
theorem G_up {s t s' t' : List Nat} (hl : 0 < t.length) (hl' : 0 < t'.length) (hd : 0 < drf t t') (B : Int) : ∃ n, B < G s t s' t' n := by
  have h0 : (0 : Int) ≤ (cnt s t (max s.length s'.length) : Nat) := by omega
  refine ⟨max s.length s'.length + Nat.lcm t.length t'.length * (B + (cnt s' t' (max s.length s'.length) : Nat) + 1).toNat, ?_⟩
  rw [G_turns (by omega) (by omega) hl hl']
  generalize hk : (B + (cnt s' t' (max s.length s'.length) : Nat) + 1).toNat = k
  have h1 : (k : Int) ≤ drf t t' * (k : Int) := by
    have := Int.mul_le_mul_of_nonneg_right (show (1 : Int) ≤ drf t t' by omega) (show (0 : Int) ≤ (k : Int) by omega)
    rw [Int.one_mul] at this
    exact this
  unfold G
  omega
/-- the least number of places that is enough, none where none is -/
inductive Gap (s t s' t' : List Nat) : Option Int → Prop
  | none : 0 < drf t t' → (∀ B, ∃ n, B < G s t s' t' n) → Gap s t s' t' none
  | some (M : Int) : drf t t' ≤ 0 → (∃ n, G s t s' t' n = M) → (∀ n, G s t s' t' n ≤ M) → Gap s t s' t' (some M)
theorem Gap.uniq {s t s' t' : List Nat} {d e : Option Int} (a : Gap s t s' t' d) (b : Gap s t s' t' e) : d = e := by
  cases a with
  | none h1 h2 =>
    cases b with
    | none => rfl
    | some M k1 k2 k3 => omega
  | some M h1 h2 h3 =>
    cases b with
    | none k1 k2 => omega
    | some N k1 k2 k3 =>
      obtain ⟨n, hn⟩ := h2
      obtain ⟨m, hm⟩ := k2
      have := k3 n
      have := h3 m
      congr 1
      omega
theorem Gap.zero {s t s' t' : List Nat} {d : Option Int} (a : Gap s t s' t' d) : d = Option.some 0 ↔ ∀ n, cnt s t n ≤ cnt s' t' n := by
  cases a with
  | none h1 h2 =>
    constructor
    · intro z
      cases z
    · intro z
      obtain ⟨n, hn⟩ := h2 0
      have := z n
      unfold G at hn
      omega
  | some M h1 h2 h3 =>
    constructor
    · intro z n
      cases z
      have := h3 n
      unfold G at this
      omega
    · intro z
      obtain ⟨n, hn⟩ := h2
      have h0 := h3 0
      rw [G_zero] at h0
      have := z n
      unfold G at hn
      congr 1
      omega
end WT

namespace WT
/-! a word read at another's ones -/
theorem live_at {s t : List Nat} {n : Nat} (h : sat s t n = 49) : cnt s t n + 1 ≤ (spotsL s).length ∨ spotsL t ≠ [] := by
  by_cases q : spotsL t = []
  · left
    have hc : t.count 49 = 0 := by rw [← spots_len, q]; rfl
    rcases Nat.lt_or_ge n s.length with hn | hn
    · rw [spots_len, cnt_lo (by omega)]
      have e : s.take (n + 1) = s.take n ++ [49] := by
        rw [List.take_succ]
        rw [sat_lt hn] at h
        have := getD_some hn
        rw [h] at this
        rw [this]
        rfl
      have h2 : (s.take (n + 1)).count 49 ≤ s.count 49 := (List.take_sublist _ _).count_le 49
      rw [e, List.count_append] at h2
      simpa using h2
    · exfalso
      rw [sat_ge hn] at h
      unfold cyc at h
      rw [List.getD_eq_getElem?_getD] at h
      cases e2 : t[(n - s.length) % t.length]? with
      | none => rw [e2] at h; cases h
      | some c =>
        rw [e2] at h
        have h : c = 49 := h
        rw [h] at e2
        exact List.count_eq_zero.mp hc (List.mem_of_getElem? e2)
  · exact .inr q
theorem place_uniq {s t : List Nat} {n : Nat} (h : sat s t n = 49) : placeF s t (cnt s t n + 1) = n + 1 := by
  obtain ⟨h1, h2, h3, _⟩ := placeF_spec (s := s) (t := t) (n := cnt s t n + 1) (by omega) (live_at h)
  generalize placeF s t (cnt s t n + 1) = p at *
  rcases Nat.lt_trichotomy p (n + 1) with q | q | q
  · have := cnt_mono s t (show p ≤ n by omega)
    omega
  · exact q
  · exfalso
    have k1 := cnt_mono s t (show n + 1 ≤ p - 1 by omega)
    have k2 := cnt_succ s t (p - 1)
    rw [if_pos h2, show p - 1 + 1 = p by omega] at k2
    have k3 := cnt_succ s t n
    rw [if_pos h] at k3
    omega
/-- the sign of the other at the (j+1)-th one of s, t -/
def dX (s t s' t' : List Nat) (j : Nat) : Nat := if j + 1 ≤ (spotsL s).length ∨ spotsL t ≠ [] then sat s' t' (placeF s t (j + 1) - 1) else 48
theorem dX_at {s t s' t' : List Nat} {n : Nat} (h : sat s t n = 49) : dX s t s' t' (cnt s t n) = sat s' t' n := by
  unfold dX
  rw [if_pos (live_at h), place_uniq h, Nat.add_sub_cancel]
theorem filter_ones {α : Type} (s t : List Nat) (f : Nat → α) (g : Nat → α) (hg : ∀ n, sat s t n = 49 → g (cnt s t n) = f n) : ∀ n : Nat, (((List.range n).filter fun i => sat s t i == 49).map f) = (List.range (cnt s t n)).map g
  | 0 => rfl
  | n + 1 => by
    rw [List.range_succ, List.filter_append, List.map_append, filter_ones s t f g hg n, cnt_succ]
    by_cases q : sat s t n = 49
    · rw [if_pos q, List.range_succ, List.map_append]
      simp [q, hg n q]
    · rw [if_neg q]
      simp [q]
/-- every one but so many is reached -/
theorem one_at {s t : List Nat} (j : Nat) (h : j + 1 ≤ (spotsL s).length ∨ spotsL t ≠ []) : ∃ n, sat s t n = 49 ∧ cnt s t n = j := by
  obtain ⟨h1, h2, h3, _⟩ := placeF_spec (s := s) (t := t) (n := j + 1) (by omega) h
  refine ⟨placeF s t (j + 1) - 1, h2, ?_⟩
  have k2 := cnt_succ s t (placeF s t (j + 1) - 1)
  rw [if_pos h2, show placeF s t (j + 1) - 1 + 1 = placeF s t (j + 1) by omega] at k2
  omega
theorem dX_per {s t s' t' : List Nat} {a L : Nat} (hs : s.length ≤ a) (hs' : s'.length ≤ a) (hd : t.length ∣ L) (hd' : t'.length ∣ L) (hl : 0 < t.length) (hz : spotsL t ≠ []) : Per (dX s t s' t') (cnt s t a) (L / t.length * t.count 49) := fun j hj => by
  obtain ⟨n, n1, n2⟩ := one_at (s := s) (t := t) j (.inr hz)
  have hn : a ≤ n := by
    rcases Nat.lt_or_ge n a with q | q
    · have k := cnt_mono s t (show n + 1 ≤ a by omega)
      rw [cnt_succ, if_pos n1] at k
      omega
    · exact q
  have p1 : sat s t (n + L) = 49 := by
    obtain ⟨m, rfl⟩ := hd
    rw [per_sat.mul m n (by omega)]
    exact n1
  have p2 : sat s' t' (n + L) = sat s' t' n := by
    obtain ⟨m, rfl⟩ := hd'
    exact per_sat.mul m n (by omega)
  have e := cnt_lcm (s := s) (a := n) (by omega) hd hl
  have d1 := dX_at (s' := s') (t' := t') n1
  have d2 := dX_at (s' := s') (t' := t') p1
  rw [n2] at d1 e
  rw [e] at d2
  rw [d1, d2, p2]
theorem dX_zero {s t s' t' : List Nat} {j : Nat} (hz : spotsL t = []) (hj : (spotsL s).length ≤ j) : dX s t s' t' j = 48 := by
  unfold dX
  rw [if_neg (fun q => q.elim (fun q => by omega) fun q => q hz)]
end WT

namespace WT
theorem cnt_top (s t : List Nat) (n : Nat) : cnt s t n ≤ n := by
  unfold cnt
  have := List.count_le_length (a := 49) (l := txt s t n)
  rw [txt_len] at this
  exact this
/-- the faster one is ahead from a beat on that is known -/
theorem G_cross {s t s' t' : List Nat} (hl : 0 < t.length) (hl' : 0 < t'.length) (hd : 0 < drf t t') {a L n : Nat} (ha : max s.length s'.length ≤ a) (hL : Nat.lcm t.length t'.length = L) (hn : a + L * (a + L) ≤ n) : 0 ≤ G s t s' t' n := by
  have hL0 : 0 < L := by rw [← hL]; exact lcm_pos hl hl'
  have e : n = a + (n - a) % L + L * ((n - a) / L) := by
    have := Nat.mod_add_div (n - a) L
    have : a ≤ n := by omega
    omega
  have hr : (n - a) % L < L := Nat.mod_lt _ hL0
  have hk : a + L ≤ (n - a) / L := by
    rw [Nat.le_div_iff_mul_le hL0, Nat.mul_comm]
    omega
  generalize (n - a) % L = r at *
  generalize (n - a) / L = k at *
  have hg := G_turns (s := s) (t := t) (s' := s') (t' := t') (a := a + r) (by omega) (by omega) hl hl' k
  rw [hL] at hg
  rw [e, hg]
  have h1 : (k : Int) ≤ drf t t' * (k : Int) := by
    have := Int.mul_le_mul_of_nonneg_right (show (1 : Int) ≤ drf t t' by omega) (show (0 : Int) ≤ (k : Int) by omega)
    rw [Int.one_mul] at this
    exact this
  have h2 := cnt_top s' t' (a + r)
  have h3 : -((a + r : Nat) : Int) ≤ G s t s' t' (a + r) := by
    unfold G
    omega
  omega
theorem drf_neg {t t' : List Nat} : drf t t' = -drf t' t := by
  unfold drf
  rw [Nat.lcm_comm t'.length t.length]
  omega
theorem G_neg (s t s' t' : List Nat) (n : Nat) : G s t s' t' n = -G s' t' s t n := by
  unfold G
  omega
/-- where one is never behind, the drift is its own -/
theorem drf_dom {s t s' t' : List Nat} (hl : 0 < t.length) (hl' : 0 < t'.length) (h : ∀ n, cnt s' t' n ≤ cnt s t n) : 0 ≤ drf t t' := by
  by_cases q : 0 ≤ drf t t'
  · exact q
  · exfalso
    obtain ⟨n, hn⟩ := G_up (s := s') (t := t') (s' := s) (t' := t) hl' hl (by rw [drf_neg]; omega) 0
    have := h n
    unfold G at hn
    omega
end WT

namespace WT
/-! the ones of a sequence that a word says -/
def cntX (x : Nat → Nat) : Nat → Nat
  | 0 => 0
  | n + 1 => cntX x n + if x n = 49 then 1 else 0
theorem cntX_eq {s t : List Nat} {x : Nat → Nat} (e : ∀ i, sat s t i = x i) : ∀ n, cnt s t n = cntX x n
  | 0 => rfl
  | n + 1 => by
    rw [cnt_succ, cntX_eq e n, e]
    rfl
theorem cntX_sat (s t : List Nat) (n : Nat) : cntX (sat s t) n = cnt s t n := (cntX_eq (fun _ => rfl) n).symm
/-- on: the ones of one's ones -/
theorem cntX_on (s t s' t' : List Nat) : ∀ n, cntX (onX s t s' t') n = cnt s' t' (cnt s t n)
  | 0 => rfl
  | n + 1 => by
    show cntX (onX s t s' t') n + (if onX s t s' t' n = 49 then 1 else 0) = _
    rw [cntX_on s t s' t' n, cnt_succ]
    unfold onX
    by_cases h : sat s t n = 49
    · rw [if_pos h, if_pos h, cnt_succ]
    · rw [if_neg h, if_neg h, if_neg (by decide)]
      rfl
end WT

namespace WT
/-! the algebra of sequences of 0 (48) and 1 (49) -/
def oX (x y : Nat → Nat) (i : Nat) : Nat := if x i = 49 then y (cntX x i) else 48
def aX (x y : Nat → Nat) (i : Nat) : Nat := if x i = 49 then y i else 48
def rX (x y : Nat → Nat) (i : Nat) : Nat := if x i = 49 then 49 else y i
def fX (x : Nat → Nat) (i : Nat) : Nat := flip (x i)
def B1 (x : Nat → Nat) : Prop := ∀ i, x i = 48 ∨ x i = 49
theorem onX_o (s t s' t' : List Nat) : onX s t s' t' = oX (sat s t) (sat s' t') := by
  funext i
  unfold onX oX
  rw [cntX_sat]
theorem cntX_o (x y : Nat → Nat) : ∀ n, cntX (oX x y) n = cntX y (cntX x n)
  | 0 => rfl
  | n + 1 => by
    show cntX (oX x y) n + (if oX x y n = 49 then 1 else 0) = cntX y (cntX x n + if x n = 49 then 1 else 0)
    rw [cntX_o x y n]
    unfold oX
    by_cases h : x n = 49
    · rw [if_pos h, if_pos h]
      rfl
    · rw [if_neg h, if_neg h, if_neg (by decide)]
      rfl
theorem oX_assoc (x y z : Nat → Nat) : oX (oX x y) z = oX x (oX y z) := by
  funext i
  show (if oX x y i = 49 then z (cntX (oX x y) i) else 48) = if x i = 49 then (if y (cntX x i) = 49 then z (cntX y (cntX x i)) else 48) else 48
  rw [cntX_o]
  unfold oX
  by_cases h : x i = 49
  · rw [if_pos h, if_pos h]
  · rw [if_neg h, if_neg h, if_neg (by decide)]
theorem oX_a (x y z : Nat → Nat) : oX x (aX y z) = aX (oX x y) (oX x z) := by
  funext i
  unfold oX aX
  by_cases h : x i = 49
  · simp only [if_pos h]
  · simp only [if_neg h]
    rfl
theorem oX_r (x y z : Nat → Nat) : oX x (rX y z) = rX (oX x y) (oX x z) := by
  funext i
  unfold oX rX
  by_cases h : x i = 49
  · simp only [if_pos h]
  · simp only [if_neg h]
    rfl
theorem fX_a {x y : Nat → Nat} (hx : B1 x) (hy : B1 y) : fX (aX x y) = rX (fX x) (fX y) := by
  funext i
  unfold fX aX rX flip
  rcases hx i with h | h <;> rcases hy i with k | k <;> simp [h, k]
theorem rX_comm {x y : Nat → Nat} (hx : B1 x) (hy : B1 y) : rX x y = rX y x := by
  funext i
  unfold rX
  rcases hx i with h | h <;> rcases hy i with k | k <;> simp [h, k]
theorem oX_flip {x y : Nat → Nat} (hx : B1 x) (hy : B1 y) : rX (oX x y) (oX x (fX y)) = x := by
  funext i
  unfold rX oX fX flip
  rcases hx i with h | h
  · simp [h]
  · rcases hy (cntX x i) with k | k <;> simp [h, k]
theorem oX_none {x y : Nat → Nat} (hx : B1 x) (hy : B1 y) : aX (oX x y) (oX x (fX y)) = fun _ => 48 := by
  funext i
  unfold aX oX fX flip
  rcases hx i with h | h
  · simp [h]
  · rcases hy (cntX x i) with k | k <;> simp [h, k]
end WT

namespace WT
/-! division and on; places; delays; gaps of three -/
theorem spots_ne {t : List Nat} (h : 49 ∈ t) : spotsL t ≠ [] := fun z => by
  have e := spots_len t
  rw [z] at e
  exact List.count_eq_zero.mp e.symm h
theorem dX_on {s t s' t' a b : List Nat} (hz : spotsL t ≠ []) (e : ∀ i, sat a b i = onX s t s' t' i) (j : Nat) : dX s t a b j = sat s' t' j := by
  obtain ⟨n, n1, n2⟩ := one_at (s := s) (t := t) j (.inr hz)
  have d := dX_at (s' := a) (t' := b) n1
  rw [n2] at d
  rw [d, e]
  unfold onX
  rw [if_pos n1, n2]
theorem on_dX {s t s' t' a b : List Nat} (hb : B1 (sat s' t')) (hin : ∀ i, sat s' t' i = 49 → sat s t i = 49) (e : ∀ i, sat a b i = dX s t s' t' i) (i : Nat) : onX s t a b i = sat s' t' i := by
  unfold onX
  by_cases h : sat s t i = 49
  · rw [if_pos h, e, dX_at h]
  · rw [if_neg h]
    rcases hb i with q | q
    · exact q.symm
    · exact (h (hin i q)).elim
theorem aX_iff {x y : Nat → Nat} (hx : B1 x) : aX x y = x ↔ ∀ i, x i = 49 → y i = 49 := by
  constructor
  · intro e i h
    have k := congrFun e i
    unfold aX at k
    rw [if_pos h] at k
    rw [k, h]
  · intro h
    funext i
    unfold aX
    by_cases q : x i = 49
    · rw [if_pos q, h i q, q]
    · rw [if_neg q]
      exact ((hx i).resolve_right q).symm
theorem rX_iff {x y : Nat → Nat} : rX x y = y ↔ ∀ i, x i = 49 → y i = 49 := by
  constructor
  · intro e i h
    have k := congrFun e i
    unfold rX at k
    rw [if_pos h] at k
    exact k.symm
  · intro h
    funext i
    unfold rX
    by_cases q : x i = 49
    · rw [if_pos q, h i q]
    · rw [if_neg q]
theorem place_is {s t : List Nat} {n m : Nat} (h1 : sat s t m = 49) (h2 : cnt s t m + 1 = n) : (n ≤ (spotsL s).length ∨ spotsL t ≠ []) ∧ placeF s t n = m + 1 := by
  subst h2
  exact ⟨live_at h1, place_uniq h1⟩
theorem place_no {s t : List Nat} {n : Nat} (hn : 0 < n) (h : ∀ m, cnt s t m < n) : ¬ (n ≤ (spotsL s).length ∨ spotsL t ≠ []) := fun z => by
  obtain ⟨_, _, h3, _⟩ := placeF_spec hn z
  have := h (placeF s t n)
  omega
theorem place_ex {s t : List Nat} {n : Nat} (hn : 0 < n) (h : n ≤ (spotsL s).length ∨ spotsL t ≠ []) : ∃ m, sat s t m = 49 ∧ cnt s t m + 1 = n ∧ placeF s t n = m + 1 := by
  obtain ⟨m, m1, m2⟩ := one_at (s := s) (t := t) (n - 1) (by rw [Nat.sub_add_cancel hn]; exact h)
  have e : cnt s t m + 1 = n := by omega
  exact ⟨m, m1, e, (place_is m1 e).2⟩
theorem cnt_hit {s t : List Nat} {n : Nat} (hn : 0 < n) : ∀ m, n ≤ cnt s t m → ∃ k, sat s t k = 49 ∧ cnt s t k + 1 = n
  | 0, h => by
    rw [cnt_zero] at h
    omega
  | m + 1, h => by
    by_cases q : n ≤ cnt s t m
    · exact cnt_hit hn m q
    · have e := cnt_succ s t m
      by_cases z : sat s t m = 49
      · rw [if_pos z] at e
        exact ⟨m, z, by omega⟩
      · rw [if_neg z] at e
        omega
theorem place_lt {s t : List Nat} {n : Nat} (hn : 0 < n) (h : ¬ (n ≤ (spotsL s).length ∨ spotsL t ≠ [])) (m : Nat) : cnt s t m < n := by
  rcases Nat.lt_or_ge (cnt s t m) n with q | q
  · exact q
  · obtain ⟨k, k1, k2⟩ := cnt_hit hn m q
    exact (h (place_is k1 k2).1).elim
theorem sat_late (s t : List Nat) (n i : Nat) : sat (List.replicate n 48 ++ s) t i = if i < n then 48 else sat s t (i - n) := by
  unfold sat
  rw [List.length_append, List.length_replicate]
  by_cases h : i < n
  · rw [if_pos h, if_pos (by omega), List.getD_eq_getElem?_getD, List.getElem?_append_left (by rw [List.length_replicate]; exact h), List.getElem?_replicate, if_pos h]
    rfl
  · rw [if_neg h]
    by_cases k : i < n + s.length
    · rw [if_pos k, if_pos (by omega), List.getD_eq_getElem?_getD, List.getElem?_append_right (by rw [List.length_replicate]; omega), List.length_replicate, List.getD_eq_getElem?_getD]
    · rw [if_neg k, if_neg (by omega), show i - (n + s.length) = i - n - s.length by omega]
theorem cnt_late (s t : List Nat) (n : Nat) : ∀ m, cnt (List.replicate n 48 ++ s) t m = cnt s t (m - n)
  | 0 => by rw [cnt_zero, Nat.zero_sub, cnt_zero]
  | m + 1 => by
    rw [cnt_succ, cnt_late s t n m, sat_late]
    by_cases h : m < n
    · rw [if_pos h, if_neg (by decide), show m + 1 - n = 0 by omega, show m - n = 0 by omega, Nat.add_zero]
    · rw [if_neg h, show m + 1 - n = (m - n) + 1 by omega, cnt_succ]
theorem gap_tri {s t s' t' s'' t'' : List Nat} {M1 M2 : Int} {d : Option Int} (h1 : Gap s t s' t' (some M1)) (h2 : Gap s' t' s'' t'' (some M2)) (h3 : Gap s t s'' t'' d) : ∃ M, d = some M ∧ M ≤ M1 + M2 := by
  cases h1 with
  | some _ _ _ a =>
    cases h2 with
    | some _ _ _ b =>
      have key : ∀ n, G s t s'' t'' n ≤ M1 + M2 := fun n => by
        have := a n
        have := b n
        unfold G at *
        omega
      cases h3 with
      | none _ c =>
        obtain ⟨n, hn⟩ := c (M1 + M2)
        have := key n
        omega
      | some M _ c _ =>
        obtain ⟨n, hn⟩ := c
        have := key n
        exact ⟨M, rfl, by omega⟩
theorem live_up {s t : List Nat} (h : 49 ∈ t) (k : Nat) : k ≤ cnt s t (s.length + t.length * k) := by
  rw [cnt_turn (Nat.le_refl _)]
  have h1 : 0 < t.count 49 := List.count_pos_iff.mpr h
  have := Nat.le_mul_of_pos_right k h1
  omega
theorem dead_top {s t : List Nat} (h : 49 ∉ t) (ht : t ≠ []) {n : Nat} (hn : s.length ≤ n) : cnt s t n = s.count 49 := by
  have h1 : t.count 49 = 0 := List.count_eq_zero.mpr h
  have h2 : ∀ r, (t.take r).count 49 = 0 := fun r => List.count_eq_zero.mpr fun q => h (List.mem_of_mem_take q)
  rw [← onesF_eq ht]
  unfold onesF
  rw [h1, h2, Nat.mul_zero]
  split
  · rw [List.take_of_length_le (by omega)]
  · rfl
theorem dead_le {s t : List Nat} (h : 49 ∉ t) (ht : t ≠ []) (n : Nat) : cnt s t n ≤ s.count 49 := by
  rw [← dead_top (s := s) h ht (n := max n s.length) (by omega)]
  exact cnt_mono s t (by omega)
/-- whether there are endlessly many, by what is counted -/
theorem live_iff {s t : List Nat} (ht : t ≠ []) : 49 ∈ t ↔ ∀ N, ∃ n, N < cnt s t n := by
  constructor
  · exact fun h N => ⟨_, Nat.lt_of_lt_of_le (Nat.lt_succ_self N) (live_up h (N + 1))⟩
  · intro h
    by_cases q : 49 ∈ t
    · exact q
    · obtain ⟨n, hn⟩ := h (s.count 49)
      have := dead_le (s := s) q ht n
      omega
theorem cnt_step (s t : List Nat) (n : Nat) : cnt s t (n + 1) = cnt s t n ∨ cnt s t (n + 1) = cnt s t n + 1 := by
  rw [cnt_succ]
  split
  · exact .inr rfl
  · exact .inl rfl
theorem cnt_window (s t : List Nat) (n : Nat) : ∀ k, cnt s t (n + k) ≤ cnt s t n + k
  | 0 => Nat.le_refl _
  | k + 1 => by
    have := cnt_window s t n k
    have := cnt_step s t (n + k)
    rw [← Nat.add_assoc]
    omega
end WT

namespace WT
/-! how many ones in a stretch -/
theorem win_up {s t : List Nat} (ht : 0 < t.length) {n : Nat} (hn : s.length ≤ n) (r : Nat) : cnt s t (n + r) ≤ cnt s t n + (t.count 49 * (r / t.length) + min (t.count 49) (r % t.length)) := by
  have e : n + r = n + r % t.length + t.length * (r / t.length) := by
    have := Nat.mod_add_div r t.length
    omega
  have hr : r % t.length < t.length := Nat.mod_lt _ ht
  rw [e, cnt_turn (by omega), Nat.mul_comm (r / t.length)]
  have h1 := cnt_window s t n (r % t.length)
  have h2 := cnt_mono s t (show n + r % t.length ≤ n + t.length * 1 by omega)
  rw [cnt_turn hn, Nat.one_mul] at h2
  omega
theorem win_lo {s t : List Nat} (ht : 0 < t.length) {n : Nat} (hn : s.length ≤ n) (r : Nat) : cnt s t n + (t.count 49 * (r / t.length) + (r % t.length - (t.length - t.count 49))) ≤ cnt s t (n + r) := by
  have e : n + r = n + r % t.length + t.length * (r / t.length) := by
    have := Nat.mod_add_div r t.length
    omega
  have hr : r % t.length < t.length := Nat.mod_lt _ ht
  rw [e, cnt_turn (by omega), Nat.mul_comm (r / t.length)]
  have h1 := cnt_window s t (n + r % t.length) (t.length - r % t.length)
  rw [show n + r % t.length + (t.length - r % t.length) = n + t.length * 1 by omega, cnt_turn hn, Nat.one_mul] at h1
  have h2 := cnt_mono s t (show n ≤ n + r % t.length by omega)
  have h3 : t.count 49 ≤ t.length := List.count_le_length
  omega
theorem win_keyB : ((List.range 7).all fun p => (List.range 7).all fun q => (List.range (p + 1)).all fun c => (List.range (q + 1)).all fun d => !decide (d * (Nat.lcm p q / q) < c * (Nat.lcm p q / p)) || (List.range (Nat.lcm p q)).all fun r => decide (d * (r / q) + min d (r % q) ≤ c * (r / p) + (r % p - (p - c)) + 2)) = true := by decide +kernel
theorem win_key (p : Nat) (hp : p < 7) (q : Nat) (hq : q < 7) (c : Nat) (hc : c < p + 1) (d : Nat) (hd : d < q + 1) (h : d * (Nat.lcm p q / q) < c * (Nat.lcm p q / p)) (r : Nat) (hr : r < Nat.lcm p q) : d * (r / q) + min d (r % q) ≤ c * (r / p) + (r % p - (p - c)) + 2 := by
  have k := List.all_eq_true.mp (List.all_eq_true.mp (List.all_eq_true.mp (List.all_eq_true.mp win_keyB p (List.mem_range.mpr hp)) q (List.mem_range.mpr hq)) c (List.mem_range.mpr hc)) d (List.mem_range.mpr hd)
  rw [decide_eq_true h] at k
  have k := List.all_eq_true.mp (show ((List.range (Nat.lcm p q)).all fun r => decide (d * (r / q) + min d (r % q) ≤ c * (r / p) + (r % p - (p - c)) + 2)) = true from k) r (List.mem_range.mpr hr)
  exact of_decide_eq_true k
theorem lcm_30 : ∀ p, p < 7 → ∀ q, q < 7 → Nat.lcm p q ≤ 30 := by decide +kernel
/-- where the drift is upward, small words have crossed ahead of beat 365 -/
theorem cross_6 {s t s' t' : List Nat} (hl : 0 < t.length) (hl' : 0 < t'.length) (hs : s.length ≤ 5) (hs' : s'.length ≤ 5) (ht : t.length ≤ 6) (ht' : t'.length ≤ 6) (hd : 0 < drf t t') {n : Nat} (hn : 400 ≤ n) : 0 ≤ G s t s' t' n := by
  have hL0 := lcm_pos hl hl'
  have hL := lcm_30 t.length (by omega) t'.length (by omega)
  have hc : t.count 49 ≤ t.length := List.count_le_length
  have hc' : t'.count 49 ≤ t'.length := List.count_le_length
  have e : n = 5 + (n - 5) % Nat.lcm t.length t'.length + Nat.lcm t.length t'.length * ((n - 5) / Nat.lcm t.length t'.length) := by
    have := Nat.mod_add_div (n - 5) (Nat.lcm t.length t'.length)
    omega
  have hr : (n - 5) % Nat.lcm t.length t'.length < Nat.lcm t.length t'.length := Nat.mod_lt _ hL0
  have hk : 12 ≤ (n - 5) / Nat.lcm t.length t'.length := by
    rw [Nat.le_div_iff_mul_le hL0]
    have : 12 * Nat.lcm t.length t'.length ≤ 12 * 30 := Nat.mul_le_mul_left _ hL
    omega
  have hdd : t'.count 49 * (Nat.lcm t.length t'.length / t'.length) < t.count 49 * (Nat.lcm t.length t'.length / t.length) := by
    unfold drf at hd
    rw [Nat.mul_comm, Nat.mul_comm (t.count 49)]
    omega
  have key := win_key t.length (by omega) t'.length (by omega) (t.count 49) (by omega) (t'.count 49) (by omega) hdd _ hr
  have hg := G_turns (s := s) (t := t) (s' := s') (t' := t') (a := 5 + (n - 5) % Nat.lcm t.length t'.length) (by omega) (by omega) hl hl' ((n - 5) / Nat.lcm t.length t'.length)
  have hm : ((n - 5) / Nat.lcm t.length t'.length : Nat) ≤ drf t t' * (((n - 5) / Nat.lcm t.length t'.length : Nat) : Int) := by
    have := Int.mul_le_mul_of_nonneg_right (show (1 : Int) ≤ drf t t' by omega) (show (0 : Int) ≤ (((n - 5) / Nat.lcm t.length t'.length : Nat) : Int) by omega)
    rw [Int.one_mul] at this
    exact this
  have w1 := win_lo (s := s) hl hs ((n - 5) % Nat.lcm t.length t'.length)
  have w2 := win_up (s := s') hl' hs' ((n - 5) % Nat.lcm t.length t'.length)
  have c5 := cnt_top s' t' 5
  rw [← e] at hg
  rw [hg]
  generalize (n - 5) / Nat.lcm t.length t'.length = kk at *
  generalize (n - 5) % Nat.lcm t.length t'.length = r at *
  generalize drf t t' * (kk : Int) = dk at *
  unfold G
  omega
theorem drf_self (t : List Nat) : drf t t = 0 := by
  unfold drf
  omega
theorem G_ext {s t s' t' a b a' b' : List Nat} (e : ∀ i, sat a b i = sat s t i) (e' : ∀ i, sat a' b' i = sat s' t' i) (n : Nat) : G a b a' b' n = G s t s' t' n := by
  unfold G
  rw [cnt_ext e, cnt_ext e']
/-- the drift's sign is the words' own -/
theorem drf_zero_ext {s t s' t' a b a' b' : List Nat} (hl : 0 < t.length) (hl' : 0 < t'.length) (hb : 0 < b.length) (hb' : 0 < b'.length) (e : ∀ i, sat a b i = sat s t i) (e' : ∀ i, sat a' b' i = sat s' t' i) (h : drf t t' = 0) : drf b b' = 0 := by
  have top : ∀ (s t s' t' : List Nat), 0 < t.length → 0 < t'.length → drf t t' = 0 → ∃ B, ∀ n, G s t s' t' n ≤ B := fun s t s' t' hl hl' h => by
    refine ⟨((max s.length s'.length + Nat.lcm t.length t'.length : Nat) : Int), fun n => ?_⟩
    obtain ⟨m, hm, hg⟩ := G_bound (s := s) (s' := s') hl hl' (by omega) n
    have := cnt_top s t m
    unfold G at *
    omega
  rcases Int.lt_trichotomy (drf b b') 0 with q | q | q
  · obtain ⟨B, hB⟩ := top s' t' s t hl' hl (by rw [drf_neg]; omega)
    obtain ⟨n, hn⟩ := G_up (s := a') (s' := a) hb' hb (by rw [drf_neg]; omega) B
    rw [G_ext e' e] at hn
    have := hB n
    omega
  · exact q
  · obtain ⟨B, hB⟩ := top s t s' t' hl hl' h
    obtain ⟨n, hn⟩ := G_up (s := a) (s' := a') hb hb' q B
    rw [G_ext e e'] at hn
    have := hB n
    omega

/-! the first fault -/
def Flt (s t s' t' : List Nat) (p : Int) (n : Nat) : Prop := G s t s' t' n < 0 ∨ p < G s t s' t' n
inductive FirstF (s t s' t' : List Nat) (p : Int) : Option Nat → Prop
  | some (n : Nat) : 1 ≤ n → Flt s t s' t' p n → (∀ m, 1 ≤ m → m < n → ¬ Flt s t s' t' p m) → FirstF s t s' t' p (some n)
  | none : (∀ m, 1 ≤ m → ¬ Flt s t s' t' p m) → FirstF s t s' t' p none
theorem FirstF.uniq {s t s' t' : List Nat} {p : Int} {d e : Option Nat} (a : FirstF s t s' t' p d) (b : FirstF s t s' t' p e) : d = e := by
  cases a with
  | some n h1 h2 h3 =>
    cases b with
    | some m k1 k2 k3 =>
      rcases Nat.lt_trichotomy n m with q | q | q
      · exact (k3 n h1 q h2).elim
      · rw [q]
      · exact (h3 m k1 q k2).elim
    | none k => exact (k n h1 h2).elim
  | none h =>
    cases b with
    | some m k1 k2 k3 => exact (h m k1 k2).elim
    | none k => rfl
/-- where there is no drift, each beat from 1 has its like in the first common round -/
theorem G_back {s t s' t' : List Nat} (hl : 0 < t.length) (hl' : 0 < t'.length) (hd : drf t t' = 0) {m : Nat} (hm : 1 ≤ m) : ∃ j, 1 ≤ j ∧ j ≤ max s.length s'.length + Nat.lcm t.length t'.length ∧ G s t s' t' m = G s t s' t' j := by
  have hL := lcm_pos hl hl'
  rcases Nat.lt_or_ge (max s.length s'.length + Nat.lcm t.length t'.length) m with q | q
  · have e : m = max s.length s'.length + 1 + (m - (max s.length s'.length + 1)) % Nat.lcm t.length t'.length + Nat.lcm t.length t'.length * ((m - (max s.length s'.length + 1)) / Nat.lcm t.length t'.length) := by
      have := Nat.mod_add_div (m - (max s.length s'.length + 1)) (Nat.lcm t.length t'.length)
      omega
    have hr : (m - (max s.length s'.length + 1)) % Nat.lcm t.length t'.length < Nat.lcm t.length t'.length := Nat.mod_lt _ hL
    generalize (m - (max s.length s'.length + 1)) % Nat.lcm t.length t'.length = r at *
    generalize (m - (max s.length s'.length + 1)) / Nat.lcm t.length t'.length = k at *
    refine ⟨max s.length s'.length + 1 + r, by omega, by omega, ?_⟩
    rw [e, G_turns (by omega) (by omega) hl hl', hd]
    omega
  · exact ⟨m, hm, q, rfl⟩
theorem first_none {s t s' t' : List Nat} {p : Int} (hl : 0 < t.length) (hl' : 0 < t'.length) (hd : drf t t' = 0) {b : Nat} (hb : max s.length s'.length + Nat.lcm t.length t'.length ≤ b) (h : ∀ m, 1 ≤ m → m ≤ b → ¬ Flt s t s' t' p m) : FirstF s t s' t' p none :=
  .none fun m hm z => by
    obtain ⟨j, j1, j2, j3⟩ := G_back (s := s) (s' := s') hl hl' hd hm
    refine h j j1 (by omega) ?_
    unfold Flt at *
    rw [← j3]
    exact z
/-- where there is a drift, a fault is near -/
theorem fault_near {s t s' t' : List Nat} (hl : 0 < t.length) (hl' : 0 < t'.length) (hs : s.length ≤ 8) (hs' : s'.length ≤ 8) (hd : drf t t' ≠ 0) {p : Int} (hp : p ≤ 40) : Flt s t s' t' p (8 + Nat.lcm t.length t'.length * 60) := by
  have hg := G_turns (s := s) (t := t) (s' := s') (t' := t') (a := 8) (by omega) (by omega) hl hl' 60
  have c1 := cnt_top s t 8
  have c2 := cnt_top s' t' 8
  unfold Flt
  rw [hg]
  rcases Int.lt_or_gt_of_ne hd with q | q
  · left
    unfold G
    omega
  · right
    unfold G
    omega
theorem dead_drf {t t' : List Nat} (h : 49 ∉ t) (h' : 49 ∉ t') : drf t t' = 0 := by
  unfold drf
  rw [List.count_eq_zero.mpr h, List.count_eq_zero.mpr h']
  omega
end WT

namespace ES
open PySem PySem.Spec PyProof PyProof.Rows DL

/-! ### what the operations give on texts of 0 and 1 -/
def Bt (s : List Nat) : Prop := ∀ c ∈ s, c = 48 ∨ c = 49
theorem bt_nil : Bt [] := fun c h => by cases h
theorem bt_app {a b : List Nat} (h : Bt a) (k : Bt b) : Bt (a ++ b) := fun c q => (List.mem_append.mp q).elim (h c) (k c)
theorem bt_take {a : List Nat} (h : Bt a) (n : Nat) : Bt (a.take n) := fun c q => h c (List.mem_of_mem_take q)
theorem bt_drop {a : List Nat} (h : Bt a) (n : Nat) : Bt (a.drop n) := fun c q => h c (List.mem_of_mem_drop q)
theorem bt_flat {a : List Nat} (h : Bt a) (n : Nat) : Bt (List.replicate n a).flatten := fun c q => by
  obtain ⟨l, h1, h2⟩ := List.mem_flatten.mp q
  rw [(List.mem_replicate.mp h1).2] at h2
  exact h c h2
theorem bt_getD {a : List Nat} (h : Bt a) {i : Nat} (hi : i < a.length) : a.getD i 0 = 48 ∨ a.getD i 0 = 49 := by
  rw [List.getD_eq_getElem?_getD, List.getElem?_eq_getElem hi]
  exact h _ (List.getElem_mem hi)
theorem bt_cyc {a : List Nat} (h : Bt a) (ha : a ≠ []) (i : Nat) : WT.cyc a i = 48 ∨ WT.cyc a i = 49 := bt_getD h (Nat.mod_lt _ (List.length_pos_iff.mpr ha))
theorem bt_sat {s t : List Nat} (hs : Bt s) (ht : Bt t) (hn : t ≠ []) (i : Nat) : WT.sat s t i = 48 ∨ WT.sat s t i = 49 := by
  unfold WT.sat
  split
  · exact bt_getD hs (by assumption)
  · exact bt_cyc ht hn _
theorem bt_txt {s t : List Nat} (hs : Bt s) (ht : Bt t) (hn : t ≠ []) (n : Nat) : Bt (WT.txt s t n) := fun c h => by
  obtain ⟨i, _, e⟩ := List.mem_map.mp h
  rw [← e]
  exact bt_sat hs ht hn i
theorem ok_str {s : List Nat} (h : Bt s) : okD (.str s) = true := by
  have h2 : (s.toArray.all fun c => decide (c < 0x110000)) = true := by
    rw [← Array.all_toList]
    refine List.all_eq_true.mpr fun c hc => decide_eq_true ?_
    rcases h c hc with q | q <;> rw [q] <;> decide
  have h3 : PyData.canLay0 (.str ⟨s.toArray⟩) = true := by
    unfold PyData.canLay0
    exact h2
  show (PyData.canLay0 (.str ⟨s.toArray⟩) && decide (PyData.depth (.str ⟨s.toArray⟩) ≤ 64)) = true
  rw [h3]
  rfl
theorem ok_word {s t : List Nat} (h : Bt s) (k : Bt t) : okD (.tup [.str s, .str t]) = true := by
  have h1 := SeqAt.canLay_of_shaped (ok_str h)
  have h2 := SeqAt.canLay_of_shaped (ok_str k)
  show (PyData.canLayAll0 [.str ⟨s.toArray⟩, .str ⟨t.toArray⟩] && decide (PyData.depth (.tuple [.str ⟨s.toArray⟩, .str ⟨t.toArray⟩]) ≤ 64)) = true
  have h3 : PyData.canLayAll0 [.str ⟨s.toArray⟩, .str ⟨t.toArray⟩] = true := by
    show (PyData.canLay0 (.str ⟨s.toArray⟩) && (PyData.canLay0 (.str ⟨t.toArray⟩) && true)) = true
    rw [show PyData.canLay0 (.str ⟨s.toArray⟩) = true from h1, show PyData.canLay0 (.str ⟨t.toArray⟩) = true from h2]
    rfl
  rw [h3]
  rfl
theorem ok_int (i : Int) : okD (.int i) = true := rfl
theorem ok_bl (i : Bool) : okD (.bl i) = true := rfl
theorem ok_non : okD .non = true := rfl
theorem ok_ints : ∀ ns : List Int, okD (.lst (ns.map .int)) = true := by
  intro ns
  have h1 : ∀ ns : List Int, PyData.canLayAll0 (D.pys (ns.map .int)) = true := by
    intro ns
    induction ns with
    | nil => rfl
    | cons n ns ih =>
      show (true && PyData.canLayAll0 (D.pys (ns.map .int))) = true
      rw [ih]
      rfl
  have h2 : ∀ ns : List Int, PyData.depthAll (D.pys (ns.map .int)) = 0 := by
    intro ns
    induction ns with
    | nil => rfl
    | cons n ns ih =>
      show max 0 (PyData.depthAll (D.pys (ns.map .int))) = 0
      rw [ih]
      rfl
  show (PyData.canLayAll0 (D.pys (ns.map .int)) && decide (PyData.depthAll (D.pys (ns.map .int)) + 1 ≤ 64)) = true
  rw [h1, h2]
  rfl
theorem eqS {a b : List Nat} (h : Bt a) (k : Bt b) : opEq (.str a) (.str b) = some (.bl (a == b)) := by
  unfold opEq
  rw [ok_str h, ok_str k, if_pos (by decide)]
  show some (D.bl ((⟨a.toArray⟩ : PySem.Str) == ⟨b.toArray⟩)) = _
  rw [beq_str]
theorem neS {a b : List Nat} (h : Bt a) (k : Bt b) : opNe (.str a) (.str b) = some (.bl (!(a == b))) := by
  unfold opNe
  rw [ok_str h, ok_str k, if_pos (by decide)]
  show some (D.bl (!((⟨a.toArray⟩ : PySem.Str) == ⟨b.toArray⟩))) = _
  rw [beq_str]
theorem eqW {a b c d : List Nat} (h : Bt a) (k : Bt b) (h' : Bt c) (k' : Bt d) : opEq (.tup [.str a, .str b]) (.tup [.str c, .str d]) = some (.bl (a == c && b == d)) := by
  unfold opEq
  rw [ok_word h k, ok_word h' k', if_pos (by decide)]
  show some (D.bl (((⟨a.toArray⟩ : PySem.Str) == ⟨c.toArray⟩) && (((⟨b.toArray⟩ : PySem.Str) == ⟨d.toArray⟩) && true))) = _
  rw [beq_str, beq_str, Bool.and_true]
theorem neW {a b c d : List Nat} (h : Bt a) (k : Bt b) (h' : Bt c) (k' : Bt d) : opNe (.tup [.str a, .str b]) (.tup [.str c, .str d]) = some (.bl (!(a == c && b == d))) := by
  unfold opNe
  rw [ok_word h k, ok_word h' k', if_pos (by decide)]
  show some (D.bl (!(((⟨a.toArray⟩ : PySem.Str) == ⟨c.toArray⟩) && (((⟨b.toArray⟩ : PySem.Str) == ⟨d.toArray⟩) && true)))) = _
  rw [beq_str, beq_str, Bool.and_true]
theorem eqI (i j : Int) : opEq (.int i) (.int j) = some (.bl (i == j)) := rfl
theorem neI (i j : Int) : opNe (.int i) (.int j) = some (.bl (!(i == j))) := rfl
theorem eqB (i j : Bool) : opEq (.bl i) (.bl j) = some (.bl (i == j)) := rfl
theorem neB (i j : Bool) : opNe (.bl i) (.bl j) = some (.bl (!(i == j))) := rfl
theorem eqN (d : D) (h : okD d = true) : opEq d .non = some (.bl (isNon d)) := by
  unfold opEq
  rw [h, ok_non, if_pos (by decide)]
  cases d <;> rfl
theorem eqNil (ns : List Int) : opEq (.lst (ns.map .int)) (.lst []) = some (.bl ns.isEmpty) := by
  unfold opEq
  rw [ok_ints, show okD (.lst []) = true from rfl, if_pos (by decide)]
  cases ns <;> rfl
/-! items, slices -/
theorem ix_nat {α : Type} {xs : List α} {i : Nat} {x : α} (h : xs[i]? = some x) : L2.atI xs (i : Int) = some x := by
  obtain ⟨hi, _⟩ := List.getElem?_eq_some_iff.mp h
  unfold L2.atI L2.ixN
  rw [if_pos (by omega), if_pos (by omega)]
  exact h
theorem ix_int {α : Type} {xs : List α} {i : Int} {x : α} (h0 : 0 ≤ i) (h : xs[i.toNat]? = some x) : L2.atI xs i = some x := by
  have := ix_nat h
  rw [Int.toNat_of_nonneg h0] at this
  exact this
theorem ix_last {α : Type} {xs : List α} (h : xs ≠ []) : L2.atI xs (-1) = xs.getLast? := by
  have hl : 0 < xs.length := List.length_pos_iff.mpr h
  unfold L2.atI L2.ixN
  rw [if_neg (by decide), if_pos (by omega)]
  show xs[(-1 + (xs.length : Int)).toNat]? = _
  rw [List.getLast?_eq_getElem?, show (-1 + (xs.length : Int)).toNat = xs.length - 1 by omega]
theorem cut_to {α : Type} (xs : List α) (n : Nat) : cutL xs none (some (n : Int)) = xs.take n := by
  unfold cutL
  rw [HT.sIx_none, HT.sIx_nat]
  simp only [List.drop_zero, Nat.sub_zero]
  rw [List.take_eq_take_iff]
  omega
theorem cut_toI {α : Type} (xs : List α) {i : Int} (h : 0 ≤ i) : cutL xs none (some i) = xs.take i.toNat := by
  have := cut_to xs i.toNat
  rw [Int.toNat_of_nonneg h] at this
  exact this
theorem cut_from {α : Type} (xs : List α) (n : Nat) : cutL xs (some (n : Int)) none = xs.drop n := by
  unfold cutL
  rw [HT.sIx_none, HT.sIx_nat]
  rcases Nat.le_total n xs.length with h | h
  · rw [Nat.min_eq_left h, List.take_of_length_le (by rw [List.length_drop]; omega)]
  · rw [Nat.min_eq_right h, List.drop_eq_nil_of_le (Nat.le_refl _), List.drop_eq_nil_of_le h, List.take_nil]
theorem cut_most {α : Type} (xs : List α) : cutL xs none (some (-1)) = xs.dropLast := by
  unfold cutL
  have e : HT.sIx xs.length xs.length (some (-1)) = xs.length - 1 := by
    show (if (-1 : Int) < 0 then ((-1 : Int) + (xs.length : Int)).toNat else min ((-1 : Int)).toNat xs.length) = _
    rw [if_pos (by decide)]
    omega
  rw [e, HT.sIx_none, List.dropLast_eq_take]
  simp
theorem numD_map (lo : Int) : ∀ n : Nat, numD lo n = (List.range n).map fun i => .int (lo + (i : Int))
  | 0 => rfl
  | n + 1 => by
    rw [List.range_succ_eq_map, List.map_cons, List.map_map]
    show D.int lo :: numD (lo + 1) n = _
    rw [numD_map (lo + 1) n, Int.ofNat_zero, Int.add_zero]
    refine congrArg _ (List.map_congr_left fun i _ => ?_)
    show D.int _ = D.int _
    congr 1
    simp
    omega
theorem joinL_nil : ∀ l : List (List Nat), TL.joinL [] l = l.flatten
  | [] => rfl
  | [x] => by simp [TL.joinL]
  | x :: y :: r => by
    show x ++ ([] ++ TL.joinL [] (y :: r)) = _
    rw [List.nil_append, joinL_nil (y :: r), List.flatten_cons, List.flatten_cons, List.flatten_cons]
theorem flat_one : ∀ l : List Nat, (l.map fun c => [c]).flatten = l
  | [] => rfl
  | c :: l => by rw [List.map_cons, List.flatten_cons, flat_one l]; rfl
theorem asStrs_one (l : List Nat) : asStrs (l.map fun c => .str [c]) = some (l.map fun c => [c]) := by
  have := asStrs_map (l.map fun c => [c])
  rw [List.map_map] at this
  exact this
theorem sumLen_one (l : List Nat) : sumLen (l.map fun c => [c]) = l.length := by
  induction l with
  | nil => rfl
  | cons c l ih =>
    show [c].length + sumLen (l.map fun c => [c]) = _
    rw [ih]
    simp
    omega
/-- ''.join of signs -/
theorem join_one {l : List Nat} (h : l.length ≤ 1000000) : bJoin [.str [], .lst (l.map fun c => .str [c])] = some (.str l) := by
  unfold bJoin
  simp only [asStrs_one, Option.bind_some]
  rw [if_pos (by rw [sumLen_one]; simp; omega), joinL_nil, flat_one]
theorem runF_ret {F : FS} {N n : Nat} {ds : List D} {d : D} {r : Rho} (h : F (start0 N ds) = .ret d r) (hl : ds.length = n := by rfl) : runF F N n ds = .ok d := by
  unfold runF
  rw [if_pos hl, h]
theorem runF_nx {F : FS} {N n : Nat} {ds : List D} {r : Rho} (h : F (start0 N ds) = .nx r) (hl : ds.length = n := by rfl) : runF F N n ds = .ok .non := by
  unfold runF
  rw [if_pos hl, h]
theorem runR_ret {F : FS} {N n : Nat} {row row' ds : List D} {d : D} {r : Rho} (h : F (start0 N (.lst row :: ds)) = .ret d (some (.lst row') :: r)) (hl : ds.length = n := by rfl) : runR F N n row ds = .ok d row' := by
  unfold runR
  rw [if_pos hl, h]
  rfl
end ES

namespace Lw
open PySem PySem.Spec PyProof.Rows L2 DL
def top (i : Nat) : Stmt := PySem.Challenge.pw_beatwords_k02_whole_counts.main.body.getD i (.Pass ⟨0, 0, 0, 0⟩)
abbrev s_within : Stmt := top 8
abbrev s_need_number : Stmt := top 9
abbrev s_is_bits : Stmt := top 10
abbrev s_is_word : Stmt := top 11
abbrev s_need_word : Stmt := top 12
abbrev s_shortest : Stmt := top 13
abbrev s_normal_of : Stmt := top 14
abbrev s_made : Stmt := top 15
abbrev s_ones_of : Stmt := top 16
abbrev s_total_of : Stmt := top 17
abbrev s_lcm_of : Stmt := top 18
abbrev s_from_bits : Stmt := top 19
abbrev s_paired : Stmt := top 20
abbrev s_need_words : Stmt := top 21
abbrev s_drift : Stmt := top 23
abbrev s_gap_of : Stmt := top 24
abbrev s_is_ahead : Stmt := top 25
abbrev s_chosen : Stmt := top 26
abbrev s_told_count : Stmt := top 27
abbrev s_gap : Stmt := top 28
abbrev s_is_earlier : Stmt := top 29
abbrev s_earliest : Stmt := top 30
abbrev s_latest : Stmt := top 31
abbrev s_size : Stmt := top 32
abbrev s_fault_of : Stmt := top 33
abbrev s_first_fault : Stmt := top 34
abbrev s_law_orders : Stmt := top 36
abbrev s_law_taken : Stmt := top 37
abbrev s_law_word : Stmt := top 38
abbrev s_law_perms : Stmt := top 39
abbrev s_law_pick : Stmt := top 40
abbrev s_law_gcd : Stmt := top 41
abbrev s_law_lcm : Stmt := top 42
abbrev s_law_sums : Stmt := top 43
abbrev s_law_bits : Stmt := top 44
abbrev s_law_alike : Stmt := top 45
abbrev s_law_is_normal : Stmt := top 46
abbrev s_law_is_word : Stmt := top 47
abbrev s_law : Stmt := top 48
theorem gl_of {X : Cx} {x : Str} (h : X.env.kindOf x = some .globalImplicit) : Gl X x := h
structure Facts (K : PySem.W.Frag) (mg : Str → Option Value) : Prop where
  f_within : ∃ f fd, FunD K "within" "within" (defArgs s_within) (defBody s_within) (defScope s_within) [] [] f fd ∧ mg "within" = some (.ref f)
  f_need_number : ∃ f fd, FunD K "need_number" "need_number" (defArgs s_need_number) (defBody s_need_number) (defScope s_need_number) [] [] f fd ∧ mg "need_number" = some (.ref f)
  f_is_bits : ∃ f fd, FunD K "is_bits" "is_bits" (defArgs s_is_bits) (defBody s_is_bits) (defScope s_is_bits) [] [] f fd ∧ mg "is_bits" = some (.ref f)
  f_is_word : ∃ f fd, FunD K "is_word" "is_word" (defArgs s_is_word) (defBody s_is_word) (defScope s_is_word) [] [] f fd ∧ mg "is_word" = some (.ref f)
  f_need_word : ∃ f fd, FunD K "need_word" "need_word" (defArgs s_need_word) (defBody s_need_word) (defScope s_need_word) [] [] f fd ∧ mg "need_word" = some (.ref f)
  f_shortest : ∃ f fd, FunD K "shortest" "shortest" (defArgs s_shortest) (defBody s_shortest) (defScope s_shortest) [] [] f fd ∧ mg "shortest" = some (.ref f)
  f_normal_of : ∃ f fd, FunD K "normal_of" "normal_of" (defArgs s_normal_of) (defBody s_normal_of) (defScope s_normal_of) [] [] f fd ∧ mg "normal_of" = some (.ref f)
  f_made : ∃ f fd, FunD K "made" "made" (defArgs s_made) (defBody s_made) (defScope s_made) [] [] f fd ∧ mg "made" = some (.ref f)
  f_ones_of : ∃ f fd, FunD K "ones_of" "ones_of" (defArgs s_ones_of) (defBody s_ones_of) (defScope s_ones_of) [] [] f fd ∧ mg "ones_of" = some (.ref f)
  f_total_of : ∃ f fd, FunD K "total_of" "total_of" (defArgs s_total_of) (defBody s_total_of) (defScope s_total_of) [] [] f fd ∧ mg "total_of" = some (.ref f)
  f_lcm_of : ∃ f fd, FunD K "lcm_of" "lcm_of" (defArgs s_lcm_of) (defBody s_lcm_of) (defScope s_lcm_of) [] [] f fd ∧ mg "lcm_of" = some (.ref f)
  f_from_bits : ∃ f fd, FunD K "from_bits" "from_bits" (defArgs s_from_bits) (defBody s_from_bits) (defScope s_from_bits) [] [] f fd ∧ mg "from_bits" = some (.ref f)
  f_paired : ∃ f fd, FunD K "paired" "paired" (defArgs s_paired) (defBody s_paired) (defScope s_paired) [] [] f fd ∧ mg "paired" = some (.ref f)
  f_need_words : ∃ f fd, FunD K "need_words" "need_words" (defArgs s_need_words) (defBody s_need_words) (defScope s_need_words) [] [] f fd ∧ mg "need_words" = some (.ref f)
  f_drift : ∃ f fd, FunD K "drift" "drift" (defArgs s_drift) (defBody s_drift) (defScope s_drift) [] [] f fd ∧ mg "drift" = some (.ref f)
  f_gap_of : ∃ f fd, FunD K "gap_of" "gap_of" (defArgs s_gap_of) (defBody s_gap_of) (defScope s_gap_of) [] [] f fd ∧ mg "gap_of" = some (.ref f)
  f_is_ahead : ∃ f fd, FunD K "is_ahead" "is_ahead" (defArgs s_is_ahead) (defBody s_is_ahead) (defScope s_is_ahead) [] [] f fd ∧ mg "is_ahead" = some (.ref f)
  f_chosen : ∃ f fd, FunD K "chosen" "chosen" (defArgs s_chosen) (defBody s_chosen) (defScope s_chosen) [] [] f fd ∧ mg "chosen" = some (.ref f)
  f_told_count : ∃ f fd, FunD K "told_count" "told_count" (defArgs s_told_count) (defBody s_told_count) (defScope s_told_count) [] [] f fd ∧ mg "told_count" = some (.ref f)
  f_gap : ∃ f fd, FunD K "gap" "gap" (defArgs s_gap) (defBody s_gap) (defScope s_gap) [] [] f fd ∧ mg "gap" = some (.ref f)
  f_is_earlier : ∃ f fd, FunD K "is_earlier" "is_earlier" (defArgs s_is_earlier) (defBody s_is_earlier) (defScope s_is_earlier) [] [] f fd ∧ mg "is_earlier" = some (.ref f)
  f_earliest : ∃ f fd, FunD K "earliest" "earliest" (defArgs s_earliest) (defBody s_earliest) (defScope s_earliest) [] [] f fd ∧ mg "earliest" = some (.ref f)
  f_latest : ∃ f fd, FunD K "latest" "latest" (defArgs s_latest) (defBody s_latest) (defScope s_latest) [] [] f fd ∧ mg "latest" = some (.ref f)
  f_size : ∃ f fd, FunD K "size" "size" (defArgs s_size) (defBody s_size) (defScope s_size) [] [] f fd ∧ mg "size" = some (.ref f)
  f_fault_of : ∃ f fd, FunD K "fault_of" "fault_of" (defArgs s_fault_of) (defBody s_fault_of) (defScope s_fault_of) [] [] f fd ∧ mg "fault_of" = some (.ref f)
  f_first_fault : ∃ f fd, FunD K "first_fault" "first_fault" (defArgs s_first_fault) (defBody s_first_fault) (defScope s_first_fault) [] [] f fd ∧ mg "first_fault" = some (.ref f)
  f_law_orders : ∃ f fd, FunD K "_law_orders" "_law_orders" (defArgs s_law_orders) (defBody s_law_orders) (defScope s_law_orders) [] [] f fd ∧ mg "_law_orders" = some (.ref f)
  f_law_taken : ∃ f fd, FunD K "_law_taken" "_law_taken" (defArgs s_law_taken) (defBody s_law_taken) (defScope s_law_taken) [] [] f fd ∧ mg "_law_taken" = some (.ref f)
  f_law_word : ∃ f fd, FunD K "_law_word" "_law_word" (defArgs s_law_word) (defBody s_law_word) (defScope s_law_word) [] [] f fd ∧ mg "_law_word" = some (.ref f)
  f_law_perms : ∃ f fd, FunD K "_law_perms" "_law_perms" (defArgs s_law_perms) (defBody s_law_perms) (defScope s_law_perms) [] [] f fd ∧ mg "_law_perms" = some (.ref f)
  f_law_pick : ∃ f fd, FunD K "_law_pick" "_law_pick" (defArgs s_law_pick) (defBody s_law_pick) (defScope s_law_pick) [] [] f fd ∧ mg "_law_pick" = some (.ref f)
  f_law_gcd : ∃ f fd, FunD K "_law_gcd" "_law_gcd" (defArgs s_law_gcd) (defBody s_law_gcd) (defScope s_law_gcd) [] [] f fd ∧ mg "_law_gcd" = some (.ref f)
  f_law_lcm : ∃ f fd, FunD K "_law_lcm" "_law_lcm" (defArgs s_law_lcm) (defBody s_law_lcm) (defScope s_law_lcm) [] [] f fd ∧ mg "_law_lcm" = some (.ref f)
  f_law_sums : ∃ f fd, FunD K "_law_sums" "_law_sums" (defArgs s_law_sums) (defBody s_law_sums) (defScope s_law_sums) [] [] f fd ∧ mg "_law_sums" = some (.ref f)
  f_law_bits : ∃ f fd, FunD K "_law_bits" "_law_bits" (defArgs s_law_bits) (defBody s_law_bits) (defScope s_law_bits) [] [] f fd ∧ mg "_law_bits" = some (.ref f)
  f_law_alike : ∃ f fd, FunD K "_law_alike" "_law_alike" (defArgs s_law_alike) (defBody s_law_alike) (defScope s_law_alike) [] [] f fd ∧ mg "_law_alike" = some (.ref f)
  f_law_is_normal : ∃ f fd, FunD K "_law_is_normal" "_law_is_normal" (defArgs s_law_is_normal) (defBody s_law_is_normal) (defScope s_law_is_normal) [] [] f fd ∧ mg "_law_is_normal" = some (.ref f)
  f_law_is_word : ∃ f fd, FunD K "_law_is_word" "_law_is_word" (defArgs s_law_is_word) (defBody s_law_is_word) (defScope s_law_is_word) [] [] f fd ∧ mg "_law_is_word" = some (.ref f)
  f_law : ∃ f fd, FunD K "law" "law" (defArgs s_law) (defBody s_law) (defScope s_law) [] [] f fd ∧ mg "law" = some (.ref f)
  b_all : mg "all" = none
  b_bool : mg "bool" = none
  b_int : mg "int" = none
  b_isinstance : mg "isinstance" = none
  b_len : mg "len" = none
  b_list : mg "list" = none
  b_max : mg "max" = none
  b_min : mg "min" = none
  b_range : mg "range" = none
  b_str : mg "str" = none
  b_tuple : mg "tuple" = none
  i_MOST_BITS : ∃ t, mg "MOST_BITS" = some (.int 400 t)
  x_gcd : mg "gcd" = some (.builtin "math.gcd")
theorem S_within : FnScope ["value", "low", "high"] ["value", "low", "high"] (defScope s_within) := ⟨rfl, rfl, rfl, by decide +kernel, rfl, by decide +kernel, by decide +kernel⟩
def F_within : FS :=
  (sRet (fAndV (fIsi "int" (fVar 0)) (fAndV (fUn unNot (fIsi "bool" (fVar 0))) (fChain (opCmp fun i j => decide (i ≤ j)) (opCmp fun i j => decide (i ≤ j)) (fVar 1) (fVar 0) (fVar 2)))))
def m_within : List D → Res := runF F_within 3 3
theorem ok_within {P : Program} {w : World} {K : PySem.W.Frag} {mg : Str → Option Value} {base : Heap} (C : Facts K mg) : Good P w K mg base "within" ["value", "low", "high"] 1 (spF K 3 m_within) :=
  good_fn (N := ["value", "low", "high"]) (k := 0) (M := []) C.f_within S_within rfl (fun _ _ _ _ _ _ us hl => match us, hl with | [_, _, _], _ => rfl) (by decide) fun f cdv A outer s H E hr => ⟨_, (ss_one (s_ret (ev_and (ev_isi "int" rfl (by decide) rfl (gl_of (by kernel_rfl)) C.b_isinstance (gl_of (by kernel_rfl)) C.b_int (by decide +kernel) (ev_var 0 rfl (.inl (by kernel_rfl)) (by decide))) (ev_and (ev_not (ev_isi "bool" rfl (by decide) rfl (gl_of (by kernel_rfl)) C.b_isinstance (gl_of (by kernel_rfl)) C.b_bool (by decide +kernel) (ev_var 0 rfl (.inl (by kernel_rfl)) (by decide)))) (ev_one (x_chain cm_le cm_le (ev_var 1 rfl (.inl (by kernel_rfl)) (by decide)) (ev_var 0 rfl (.inl (by kernel_rfl)) (by decide)) (ev_var 2 rfl (.inl (by kernel_rfl)) (by decide))))))))⟩
theorem S_is_bits : FnScope ["value", "low", "bit"] ["value", "low"] (defScope s_is_bits) := ⟨rfl, rfl, rfl, by decide +kernel, rfl, by decide +kernel, by decide +kernel⟩
def F_is_bits : FS :=
  (sRet (fAndV (fIsi "str" (fVar 0)) (fAndV (fChain (opCmp fun i j => decide (i ≤ j)) (opCmp fun i j => decide (i ≤ j)) (fVar 1) (fCall bLen (fCons (fVar 0) fNil)) (fC (.int 400))) (fCall bAll (fCons (fOfL (fComp [2] (fIt (fVar 0)) (gfN 2) fYes (fOp opIn (fVar 2) (fTup (fCons (fC (.str [48])) (fCons (fC (.str [49])) fNil)))))) fNil)))))
def m_is_bits : List D → Res := runF F_is_bits 3 2
theorem ok_is_bits {P : Program} {w : World} {K : PySem.W.Frag} {mg : Str → Option Value} {base : Heap} (C : Facts K mg) : Good P w K mg base "is_bits" ["value", "low"] 1 (spF K 2 m_is_bits) :=
  good_fn (N := ["value", "low", "bit"]) (k := 0) (M := []) C.f_is_bits S_is_bits rfl (fun _ _ _ _ _ _ us hl => match us, hl with | [_, _], _ => rfl) (by decide) fun f cdv A outer s H E hr => ⟨_, (ss_one (s_ret (ev_and (ev_isi "str" rfl (by decide) rfl (gl_of (by kernel_rfl)) C.b_isinstance (gl_of (by kernel_rfl)) C.b_str (by decide +kernel) (ev_var 0 rfl (.inl (by kernel_rfl)) (by decide))) (ev_and (x_chain cm_le cm_le (ev_var 1 rfl (.inl (by kernel_rfl)) (by decide)) (ev_callB (lv := .c) call_len cf_len (gl_of (by kernel_rfl)) C.b_len (by decide +kernel) (ea_cons (ev_var 0 rfl (.inl (by kernel_rfl)) (by decide)) (ea_nil (lv := .c)) (.inl rfl) (fun _ => rfl)) (.inr (.inr sc_len))) (ev_globI (gl_of (by kernel_rfl)) C.i_MOST_BITS)) (ev_one (ev_callB (lv := .c) (cr_all rfl) cf_all (gl_of (by kernel_rfl)) C.b_all (by decide +kernel) (ea_cons (ev_ofL (x_comp rfl (S_is_bits.nd) (own := [("bit", 2)]) (ei_seq rfl (ev_var 0 rfl (.inl (by kernel_rfl)) (by decide))) (blkOk_by (by kernel_rfl)) (by decide) (by decide) (fun _ _ _ _ _ => (eg_name 2 S_is_bits.nd rfl (.inl (by kernel_rfl)) (by decide) (.inr (by kernel_rfl)))) (fun _ _ _ _ _ => ets_nil) (fun _ _ _ _ _ => (x_cmp (cm_in hr) (ev_var 2 rfl (.inl (by kernel_rfl)) (by decide)) (ev_tup (ea_cons (ev_str [48]) (ea_cons (ev_str [49]) (ea_nil (lv := .c)) (.inl rfl) (fun _ => rfl)) (.inl rfl) (fun _ => rfl))))))) (ea_nil (lv := .c)) (.inl rfl) (fun _ => rfl)) (.inr (.inr sc_all))))))))⟩
theorem S_shortest : FnScope ["text", "size"] ["text"] (defScope s_shortest) := ⟨rfl, rfl, rfl, by decide +kernel, rfl, by decide +kernel, by decide +kernel⟩
def F_shortest : FS :=
  (sSeq (sFor (fRng2 (fC (.int 1)) (fOp opAdd (fCall bLen (fCons (fVar 0) fNil)) (fC (.int 1)))) (gfN 1) (sIf (fAnd (fTst (fOp opEq (fOp opMod (fCall bLen (fCons (fVar 0) fNil)) (fVar 1)) (fC (.int 0)))) (fTst (fOp opEq (fOp opMul (fSl (fVar 0) fNoPart (fPart (fVar 1))) (fOp opDiv (fCall bLen (fCons (fVar 0) fNil)) (fVar 1))) (fVar 0)))) (sRet (fSl (fVar 0) fNoPart (fPart (fVar 1)))) sNx))
  (sRet (fVar 0)))
def m_shortest : List D → Res := runF F_shortest 2 1
theorem ok_shortest {P : Program} {w : World} {K : PySem.W.Frag} {mg : Str → Option Value} {base : Heap} (C : Facts K mg) : Good P w K mg base "shortest" ["text"] 1 (spF K 1 m_shortest) :=
  good_fn (N := ["text", "size"]) (k := 0) (M := []) C.f_shortest S_shortest rfl (fun _ _ _ _ _ _ us hl => match us, hl with | [_], _ => rfl) (by decide) fun f cdv A outer s H E hr => ⟨_, (ss_cons (s_for (passes_of rfl) rfl (ei_rng2 rfl (gl_of (by kernel_rfl)) C.b_range ev_int (x_add (ev_callB (lv := .c) call_len cf_len (gl_of (by kernel_rfl)) C.b_len (by decide +kernel) (ea_cons (ev_var 0 rfl (.inl (by kernel_rfl)) (by decide)) (ea_nil (lv := .c)) (.inl rfl) (fun _ => rfl)) (.inr (.inr sc_len))) ev_int)) (eg_name 1 S_shortest.nd rfl (.inl (by kernel_rfl)) (by decide) (.inr (by kernel_rfl))) (ss_one (s_if (EwT.et (ew_and (et_cmp (cm_eq hr) (x_mod (ev_callB (lv := .c) call_len cf_len (gl_of (by kernel_rfl)) C.b_len (by decide +kernel) (ea_cons (ev_var 0 rfl (.inl (by kernel_rfl)) (by decide)) (ea_nil (lv := .c)) (.inl rfl) (fun _ => rfl)) (.inr (.inr sc_len))) (ev_var 1 rfl (.inl (by kernel_rfl)) (by decide))) ev_int) (ew_and1 (et_cmp (cm_eq hr) (x_mul (ev_sl rfl (ev_var 0 rfl (.inl (by kernel_rfl)) (by decide)) eo_none (eo_some (ev_var 1 rfl (.inl (by kernel_rfl)) (by decide)))) (x_div (ev_callB (lv := .c) call_len cf_len (gl_of (by kernel_rfl)) C.b_len (by decide +kernel) (ea_cons (ev_var 0 rfl (.inl (by kernel_rfl)) (by decide)) (ea_nil (lv := .c)) (.inl rfl) (fun _ => rfl)) (.inr (.inr sc_len))) (ev_var 1 rfl (.inl (by kernel_rfl)) (by decide)))) (ev_var 0 rfl (.inl (by kernel_rfl)) (by decide)))))) (ss_one (s_ret (ev_sl rfl (ev_var 0 rfl (.inl (by kernel_rfl)) (by decide)) eo_none (eo_some (ev_var 1 rfl (.inl (by kernel_rfl)) (by decide)))))) ss_nil)))
  (ss_one (s_ret (ev_var 0 rfl (.inl (by kernel_rfl)) (by decide)))))⟩
theorem S_ones_of : FnScope ["word", "beats", "start", "turn", "rest"] ["word", "beats"] (defScope s_ones_of) := ⟨rfl, rfl, rfl, by decide +kernel, rfl, by decide +kernel, by decide +kernel⟩
def F_ones_of : FS :=
  (sSeq (sAsg (fVar 0) (gfT 2 (gfC (gfN 2) (gfC (gfN 3) gfNil))))
  (sSeq (sIf (fTst (fOp (opCmp fun i j => decide (i ≤ j)) (fVar 1) (fCall bLen (fCons (fVar 2) fNil)))) (sRet (fM1 bCount (fSl (fVar 2) fNoPart (fPart (fCall bMax2 (fCons (fC (.int 0)) (fCons (fVar 1) fNil))))) (fC (.str [49])))) sNx)
  (sSeq (sSet 4 (fOp opSub (fVar 1) (fCall bLen (fCons (fVar 2) fNil))))
  (sRet (fOp opAdd (fOp opAdd (fM1 bCount (fVar 2) (fC (.str [49]))) (fOp opMul (fOp opDiv (fVar 4) (fCall bLen (fCons (fVar 3) fNil))) (fM1 bCount (fVar 3) (fC (.str [49]))))) (fM1 bCount (fSl (fVar 3) fNoPart (fPart (fOp opMod (fVar 4) (fCall bLen (fCons (fVar 3) fNil))))) (fC (.str [49]))))))))
def m_ones_of : List D → Res := runF F_ones_of 5 2
theorem ok_ones_of {P : Program} {w : World} {K : PySem.W.Frag} {mg : Str → Option Value} {base : Heap} (C : Facts K mg) : Good P w K mg base "ones_of" ["word", "beats"] 1 (spF K 2 m_ones_of) :=
  good_fn (N := ["word", "beats", "start", "turn", "rest"]) (k := 0) (M := []) C.f_ones_of S_ones_of rfl (fun _ _ _ _ _ _ us hl => match us, hl with | [_, _], _ => rfl) (by decide) fun f cdv A outer s H E hr => ⟨_, (ss_cons (s_asg (ev_var 0 rfl (.inl (by kernel_rfl)) (by decide)) (eg_tup rfl rfl (egs_cons (eg_name 2 S_ones_of.nd rfl (.inl (by kernel_rfl)) (by decide) (.inr (by kernel_rfl))) (egs_cons (eg_name 3 S_ones_of.nd rfl (.inl (by kernel_rfl)) (by decide) (.inr (by kernel_rfl))) egs_nil))))
  (ss_cons (s_if (et_cmp cm_le (ev_var 1 rfl (.inl (by kernel_rfl)) (by decide)) (ev_callB (lv := .c) call_len cf_len (gl_of (by kernel_rfl)) C.b_len (by decide +kernel) (ea_cons (ev_var 2 rfl (.inl (by kernel_rfl)) (by decide)) (ea_nil (lv := .c)) (.inl rfl) (fun _ => rfl)) (.inr (.inr sc_len)))) (ss_one (s_ret (ev_count (ev_sl rfl (ev_var 2 rfl (.inl (by kernel_rfl)) (by decide)) eo_none (eo_some (ev_callB (lv := .c) (call_max2 rfl) cf_max2 (gl_of (by kernel_rfl)) C.b_max (by decide +kernel) (ea_cons ev_int (ea_cons (ev_var 1 rfl (.inl (by kernel_rfl)) (by decide)) (ea_nil (lv := .c)) (.inl rfl) (fun _ => rfl)) (.inl rfl) (fun _ => rfl)) (.inr (.inr sc_max2))))) (ev_str [49])))) ss_nil)
  (ss_cons (s_set (i := 4) S_ones_of.nd rfl (.inl (by kernel_rfl)) (by decide) (x_sub (ev_var 1 rfl (.inl (by kernel_rfl)) (by decide)) (ev_callB (lv := .c) call_len cf_len (gl_of (by kernel_rfl)) C.b_len (by decide +kernel) (ea_cons (ev_var 2 rfl (.inl (by kernel_rfl)) (by decide)) (ea_nil (lv := .c)) (.inl rfl) (fun _ => rfl)) (.inr (.inr sc_len)))) rfl (.inr (by kernel_rfl)))
  (ss_one (s_ret (x_add (x_add (ev_count (ev_var 2 rfl (.inl (by kernel_rfl)) (by decide)) (ev_str [49])) (x_mul (x_div (ev_var 4 rfl (.inl (by kernel_rfl)) (by decide)) (ev_callB (lv := .c) call_len cf_len (gl_of (by kernel_rfl)) C.b_len (by decide +kernel) (ea_cons (ev_var 3 rfl (.inl (by kernel_rfl)) (by decide)) (ea_nil (lv := .c)) (.inl rfl) (fun _ => rfl)) (.inr (.inr sc_len)))) (ev_count (ev_var 3 rfl (.inl (by kernel_rfl)) (by decide)) (ev_str [49])))) (ev_count (ev_sl rfl (ev_var 3 rfl (.inl (by kernel_rfl)) (by decide)) eo_none (eo_some (x_mod (ev_var 4 rfl (.inl (by kernel_rfl)) (by decide)) (ev_callB (lv := .c) call_len cf_len (gl_of (by kernel_rfl)) C.b_len (by decide +kernel) (ea_cons (ev_var 3 rfl (.inl (by kernel_rfl)) (by decide)) (ea_nil (lv := .c)) (.inl rfl) (fun _ => rfl)) (.inr (.inr sc_len)))))) (ev_str [49]))))))))⟩
theorem S_total_of : FnScope ["word"] ["word"] (defScope s_total_of) := ⟨rfl, rfl, rfl, by decide +kernel, rfl, by decide +kernel, by decide +kernel⟩
def F_total_of : FS :=
  (sRet (fIf (fTst (fOp opIn (fC (.str [49])) (fOp opIx (fVar 0) (fC (.int 1))))) (fC .non) (fM1 bCount (fOp opIx (fVar 0) (fC (.int 0))) (fC (.str [49])))))
def m_total_of : List D → Res := runF F_total_of 1 1
theorem ok_total_of {P : Program} {w : World} {K : PySem.W.Frag} {mg : Str → Option Value} {base : Heap} (C : Facts K mg) : Good P w K mg base "total_of" ["word"] 1 (spF K 1 m_total_of) :=
  good_fn (N := ["word"]) (k := 0) (M := []) C.f_total_of S_total_of rfl (fun _ _ _ _ _ _ us hl => match us, hl with | [_], _ => rfl) (by decide) fun f cdv A outer s H E hr => ⟨_, (ss_one (s_ret (ev_if (et_cmp (cm_in hr) (ev_str [49]) (ev_ix rfl (fun _ _ => rfl) (ev_var 0 rfl (.inl (by kernel_rfl)) (by decide)) ev_int)) ev_non (ev_count (ev_ix rfl (fun _ _ => rfl) (ev_var 0 rfl (.inl (by kernel_rfl)) (by decide)) ev_int) (ev_str [49])))))⟩
theorem S_lcm_of : FnScope ["one", "other"] ["one", "other"] (defScope s_lcm_of) := ⟨rfl, rfl, rfl, by decide +kernel, rfl, by decide +kernel, by decide +kernel⟩
def F_lcm_of : FS :=
  (sRet (fOp opDiv (fOp opMul (fVar 0) (fVar 1)) (fCall bGcd (fCons (fVar 0) (fCons (fVar 1) fNil)))))
def m_lcm_of : List D → Res := runF F_lcm_of 2 2
theorem ok_lcm_of {P : Program} {w : World} {K : PySem.W.Frag} {mg : Str → Option Value} {base : Heap} (C : Facts K mg) : Good P w K mg base "lcm_of" ["one", "other"] 1 (spF K 2 m_lcm_of) :=
  good_fn (N := ["one", "other"]) (k := 0) (M := []) C.f_lcm_of S_lcm_of rfl (fun _ _ _ _ _ _ us hl => match us, hl with | [_, _], _ => rfl) (by decide) fun f cdv A outer s H E hr => ⟨_, (ss_one (s_ret (x_div (x_mul (ev_var 0 rfl (.inl (by kernel_rfl)) (by decide)) (ev_var 1 rfl (.inl (by kernel_rfl)) (by decide))) (ev_callBf (lv := .c) cr_gcd cf_gcd (gl_of (by kernel_rfl)) C.x_gcd (ea_cons (ev_var 0 rfl (.inl (by kernel_rfl)) (by decide)) (ea_cons (ev_var 1 rfl (.inl (by kernel_rfl)) (by decide)) (ea_nil (lv := .c)) (.inl rfl) (fun _ => rfl)) (.inl rfl) (fun _ => rfl)) (.inr (.inr sc_gcd))))))⟩
theorem S_law_orders : FnScope ["_law_some", "_law_found", "_law_thing", "_law_later", "_law_told", "_law_at"] ["_law_some"] (defScope s_law_orders) := ⟨rfl, rfl, rfl, by decide +kernel, rfl, by decide +kernel, by decide +kernel⟩
def F_law_orders : FS :=
  (sSeq (sSet 1 (fOfL (fLstL (fCons (fOfL (fLstL fNil)) fNil))))
  (sSeq (sFor (fIt (fVar 0)) (gfN 2) (sSeq (sSet 3 (fOfL (fLstL fNil)))
  (sSeq (sFor (fIt (fVar 1)) (gfN 4) (sSet 3 (fOp opAdd (fVar 3) (fOfL (fComp [5] (fRng1 (fOp opAdd (fCall bLen (fCons (fVar 4) fNil)) (fC (.int 1)))) (gfN 5) fYes (fOp opAdd (fOp opAdd (fSl (fVar 4) fNoPart (fPart (fVar 5))) (fOfL (fLstL (fCons (fVar 2) fNil)))) (fSl (fVar 4) (fPart (fVar 5)) fNoPart)))))))
  (sSet 1 (fVar 3)))))
  (sRet (fVar 1))))
def m_law_orders : List D → Res := runF F_law_orders 6 1
theorem ok_law_orders {P : Program} {w : World} {K : PySem.W.Frag} {mg : Str → Option Value} {base : Heap} (C : Facts K mg) : Good P w K mg base "_law_orders" ["_law_some"] 1 (spF K 1 m_law_orders) :=
  good_fn (N := ["_law_some", "_law_found", "_law_thing", "_law_later", "_law_told", "_law_at"]) (k := 0) (M := []) C.f_law_orders S_law_orders rfl (fun _ _ _ _ _ _ us hl => match us, hl with | [_], _ => rfl) (by decide) fun f cdv A outer s H E hr => ⟨_, (ss_cons (s_set (i := 1) S_law_orders.nd rfl (.inl (by kernel_rfl)) (by decide) (ev_ofL (el_lst (ea_cons (ev_ofL (el_lst (ea_nil (lv := .c)))) (ea_nil (lv := .c)) (.inl rfl) (fun _ => rfl)))) rfl (.inr (by kernel_rfl)))
  (ss_cons (s_for (passes_of rfl) rfl (ei_seq rfl (ev_var 0 rfl (.inl (by kernel_rfl)) (by decide))) (eg_name 2 S_law_orders.nd rfl (.inr (by kernel_rfl)) (by decide) (.inl (by kernel_rfl))) (ss_cons (s_set (i := 3) S_law_orders.nd rfl (.inl (by kernel_rfl)) (by decide) (ev_ofL (el_lst (ea_nil (lv := .c)))) rfl (.inr (by kernel_rfl)))
  (ss_cons (s_for (passes_of rfl) rfl (ei_seq rfl (ev_var 1 rfl (.inl (by kernel_rfl)) (by decide))) (eg_name 4 S_law_orders.nd rfl (.inr (by kernel_rfl)) (by decide) (.inl (by kernel_rfl))) (ss_one (s_set (i := 3) S_law_orders.nd rfl (.inl (by kernel_rfl)) (by decide) (x_add (ev_var 3 rfl (.inl (by kernel_rfl)) (by decide)) (ev_ofL (x_comp rfl (S_law_orders.nd) (own := [("_law_at", 5)]) (ei_rng1 rfl (gl_of (by kernel_rfl)) C.b_range (x_add (ev_callB (lv := .c) call_len cf_len (gl_of (by kernel_rfl)) C.b_len (by decide +kernel) (ea_cons (ev_var 4 rfl (.inr (.inl (by kernel_rfl))) (by decide)) (ea_nil (lv := .c)) (.inl rfl) (fun _ => rfl)) (.inr (.inr sc_len))) ev_int)) (blkOk_by (by kernel_rfl)) (by decide) (by decide) (fun _ _ _ _ _ => (eg_name 5 S_law_orders.nd rfl (.inl (by kernel_rfl)) (by decide) (.inr (by kernel_rfl)))) (fun _ _ _ _ _ => ets_nil) (fun _ _ _ _ _ => (x_add (x_add (ev_sl rfl (ev_var 4 rfl (.inr (.inl (by kernel_rfl))) (by decide)) eo_none (eo_some (ev_var 5 rfl (.inl (by kernel_rfl)) (by decide)))) (ev_ofL (el_lst (ea_cons (ev_var 2 rfl (.inr (.inl (by kernel_rfl))) (by decide)) (ea_nil (lv := .c)) (.inl rfl) (fun _ => rfl))))) (ev_sl rfl (ev_var 4 rfl (.inr (.inl (by kernel_rfl))) (by decide)) (eo_some (ev_var 5 rfl (.inl (by kernel_rfl)) (by decide))) eo_none)))))) rfl (.inr (by kernel_rfl)))))
  (ss_one (s_set (i := 1) S_law_orders.nd rfl (.inl (by kernel_rfl)) (by decide) (ev_var 3 rfl (.inl (by kernel_rfl)) (by decide)) rfl (.inr (by kernel_rfl)))))))
  (ss_one (s_ret (ev_var 1 rfl (.inl (by kernel_rfl)) (by decide))))))⟩
theorem S_law_taken : FnScope ["_law_row", "_law_many", "_law_found", "_law_cell"] ["_law_row", "_law_many"] (defScope s_law_taken) := ⟨rfl, rfl, rfl, by decide +kernel, rfl, by decide +kernel, by decide +kernel⟩
def F_law_taken : FS :=
  (sSeq (sIf (fTst (fOp (opCmp fun i j => decide (j < i)) (fOwnIx 0 (fC (.int 3))) (fC (.int 0)))) (sSeq (sSet 2 (fOp opMod (fCall bInt (fCons (fOwnIx 0 (fC (.int 3))) fNil)) (fVar 1)))
  (sSeq (sSetIx 0 (fC (.int 3)) (fOp opDiv (fOwnIx 0 (fC (.int 3))) (fVar 1)))
  (sRet (fVar 2)))) sNx)
  (sSeq (sSetIx 0 (fC (.int 1)) (fOp opAdd (fOwnIx 0 (fC (.int 1))) (fC (.int 1))))
  (sSeq (sIf (fTst (fOp (opCmp fun i j => decide (j < i)) (fOwnIx 0 (fC (.int 1))) (fCall bLen (fCons (fOwnIx 0 (fC (.int 0))) fNil)))) (sSeq (sSetIx 0 (fC (.int 2)) (fOp opMod (fCall bInt (fCons (fOp opAdd (fOp opMul (fOwnIx 0 (fC (.int 2))) (fC (.int 48271))) (fC (.int 11))) fNil)) (fC (.int 2147483647))))
  (sRet (fOp opMod (fCall bInt (fCons (fOp opDiv (fOwnIx 0 (fC (.int 2))) (fC (.int 7))) fNil)) (fVar 1)))) sNx)
  (sSeq (sSet 3 (fOp opIx (fOwnIx 0 (fC (.int 0))) (fOp opSub (fOwnIx 0 (fC (.int 1))) (fC (.int 1)))))
  (sSeq (sSetIx 0 (fC (.int 2)) (fOp opMod (fCall bInt (fCons (fOp opAdd (fOp opAdd (fOp opMul (fOwnIx 0 (fC (.int 2))) (fC (.int 48271))) (fVar 3)) (fC (.int 11))) fNil)) (fC (.int 2147483647))))
  (sSeq (sIf (fTst (fOp (opCmp fun i j => decide (j ≤ i)) (fVar 3) (fOp opPow (fC (.int 10)) (fC (.int 18))))) (sSetIx 0 (fC (.int 3)) (fOp opDiv (fVar 3) (fVar 1))) sNx)
  (sRet (fOp opMod (fCall bInt (fCons (fVar 3) fNil)) (fVar 1)))))))))
def m_law_taken : List D → List D → ResR := runR F_law_taken 4 1
theorem ok_law_taken {P : Program} {w : World} {K : PySem.W.Frag} {mg : Str → Option Value} {base : Heap} (C : Facts K mg) : Good P w K mg base "_law_taken" ["_law_row", "_law_many"] 1 (spR K 1 m_law_taken) :=
  good_row (N := ["_law_row", "_law_many", "_law_found", "_law_cell"]) (k := 0) (M := [0]) C.f_law_taken S_law_taken rfl (fun _ _ _ _ _ _ us hl => match us, hl with | [_, _], _ => rfl) (by decide) (by decide) fun f cdv A outer s H E hr => ⟨_, (ss_cons (s_if (et_cmp cm_gt (ev_ownIx (i := 0) rfl rfl (.inl (by kernel_rfl)) (by decide) (fun _ _ => rfl) ev_int) ev_int) (ss_cons (s_set (i := 2) S_law_taken.nd rfl (.inl (by kernel_rfl)) (by decide) (x_mod (ev_callTy (lv := .c) call_int1 cf_int (gl_of (by kernel_rfl)) C.b_int (by decide +kernel) (ea_cons (ev_ownIx (i := 0) rfl rfl (.inl (by kernel_rfl)) (by decide) (fun _ _ => rfl) ev_int) (ea_nil (lv := .c)) (.inl rfl) (fun _ => rfl)) (.inr (.inr sc_int))) (ev_var 1 rfl (.inl (by kernel_rfl)) (by decide))) rfl (.inr (by kernel_rfl)))
  (ss_cons (s_setIx (i := 0) rfl (.inl (by kernel_rfl)) (by decide) (x_div (ev_ownIx (i := 0) rfl rfl (.inl (by kernel_rfl)) (by decide) (fun _ _ => rfl) ev_int) (ev_var 1 rfl (.inl (by kernel_rfl)) (by decide))) ev_int)
  (ss_one (s_ret (ev_var 2 rfl (.inl (by kernel_rfl)) (by decide)))))) ss_nil)
  (ss_cons (s_setIx (i := 0) rfl (.inl (by kernel_rfl)) (by decide) (x_add (ev_ownIx (i := 0) rfl rfl (.inl (by kernel_rfl)) (by decide) (fun _ _ => rfl) ev_int) ev_int) ev_int)
  (ss_cons (s_if (et_cmp cm_gt (ev_ownIx (i := 0) rfl rfl (.inl (by kernel_rfl)) (by decide) (fun _ _ => rfl) ev_int) (ev_callB (lv := .c) call_len cf_len (gl_of (by kernel_rfl)) C.b_len (by decide +kernel) (ea_cons (ev_ownIx (i := 0) rfl rfl (.inl (by kernel_rfl)) (by decide) (fun _ _ => rfl) ev_int) (ea_nil (lv := .c)) (.inl rfl) (fun _ => rfl)) (.inr (.inr sc_len)))) (ss_cons (s_setIx (i := 0) rfl (.inl (by kernel_rfl)) (by decide) (x_mod (ev_callTy (lv := .c) call_int1 cf_int (gl_of (by kernel_rfl)) C.b_int (by decide +kernel) (ea_cons (x_add (x_mul (ev_ownIx (i := 0) rfl rfl (.inl (by kernel_rfl)) (by decide) (fun _ _ => rfl) ev_int) ev_int) ev_int) (ea_nil (lv := .c)) (.inl rfl) (fun _ => rfl)) (.inr (.inr sc_int))) ev_int) ev_int)
  (ss_one (s_ret (x_mod (ev_callTy (lv := .c) call_int1 cf_int (gl_of (by kernel_rfl)) C.b_int (by decide +kernel) (ea_cons (x_div (ev_ownIx (i := 0) rfl rfl (.inl (by kernel_rfl)) (by decide) (fun _ _ => rfl) ev_int) ev_int) (ea_nil (lv := .c)) (.inl rfl) (fun _ => rfl)) (.inr (.inr sc_int))) (ev_var 1 rfl (.inl (by kernel_rfl)) (by decide)))))) ss_nil)
  (ss_cons (s_set (i := 3) S_law_taken.nd rfl (.inl (by kernel_rfl)) (by decide) (ev_ix rfl (fun _ _ => rfl) (ev_ownIx (i := 0) rfl rfl (.inl (by kernel_rfl)) (by decide) (fun _ _ => rfl) ev_int) (x_sub (ev_ownIx (i := 0) rfl rfl (.inl (by kernel_rfl)) (by decide) (fun _ _ => rfl) ev_int) ev_int)) rfl (.inr (by kernel_rfl)))
  (ss_cons (s_setIx (i := 0) rfl (.inl (by kernel_rfl)) (by decide) (x_mod (ev_callTy (lv := .c) call_int1 cf_int (gl_of (by kernel_rfl)) C.b_int (by decide +kernel) (ea_cons (x_add (x_add (x_mul (ev_ownIx (i := 0) rfl rfl (.inl (by kernel_rfl)) (by decide) (fun _ _ => rfl) ev_int) ev_int) (ev_var 3 rfl (.inl (by kernel_rfl)) (by decide))) ev_int) (ea_nil (lv := .c)) (.inl rfl) (fun _ => rfl)) (.inr (.inr sc_int))) ev_int) ev_int)
  (ss_cons (s_if (et_cmp cm_ge (ev_var 3 rfl (.inl (by kernel_rfl)) (by decide)) (x_pow ev_int ev_int)) (ss_one (s_setIx (i := 0) rfl (.inl (by kernel_rfl)) (by decide) (x_div (ev_var 3 rfl (.inl (by kernel_rfl)) (by decide)) (ev_var 1 rfl (.inl (by kernel_rfl)) (by decide))) ev_int)) ss_nil)
  (ss_one (s_ret (x_mod (ev_callTy (lv := .c) call_int1 cf_int (gl_of (by kernel_rfl)) C.b_int (by decide +kernel) (ea_cons (ev_var 3 rfl (.inl (by kernel_rfl)) (by decide)) (ea_nil (lv := .c)) (.inl rfl) (fun _ => rfl)) (.inr (.inr sc_int))) (ev_var 1 rfl (.inl (by kernel_rfl)) (by decide)))))))))))⟩
theorem S_law_perms : FnScope ["_law_many", "_law_rows", "_law_turn", "_law_longer", "_law_told", "_law_place"] ["_law_many"] (defScope s_law_perms) := ⟨rfl, rfl, rfl, by decide +kernel, rfl, by decide +kernel, by decide +kernel⟩
def F_law_perms : FS :=
  (sSeq (sSet 1 (fOfL (fLstL (fCons (fTup fNil) fNil))))
  (sSeq (sFor (fRng1 (fVar 0)) (gfN 2) (sSeq (sSet 3 (fOfL (fLstL fNil)))
  (sSeq (sFor (fIt (fVar 1)) (gfN 4) (sSet 3 (fOp opAdd (fVar 3) (fOfL (fComp [5] (fRng1 (fVar 0)) (gfN 5) (fTst (fOp opNotIn (fVar 5) (fVar 4))) (fOp opAdd (fVar 4) (fTup (fCons (fVar 5) fNil))))))))
  (sSet 1 (fVar 3)))))
  (sRet (fVar 1))))
def m_law_perms : List D → Res := runF F_law_perms 6 1
theorem ok_law_perms {P : Program} {w : World} {K : PySem.W.Frag} {mg : Str → Option Value} {base : Heap} (C : Facts K mg) : Good P w K mg base "_law_perms" ["_law_many"] 1 (spF K 1 m_law_perms) :=
  good_fn (N := ["_law_many", "_law_rows", "_law_turn", "_law_longer", "_law_told", "_law_place"]) (k := 0) (M := []) C.f_law_perms S_law_perms rfl (fun _ _ _ _ _ _ us hl => match us, hl with | [_], _ => rfl) (by decide) fun f cdv A outer s H E hr => ⟨_, (ss_cons (s_set (i := 1) S_law_perms.nd rfl (.inl (by kernel_rfl)) (by decide) (ev_ofL (el_lst (ea_cons (ev_tup (ea_nil (lv := .c))) (ea_nil (lv := .c)) (.inl rfl) (fun _ => rfl)))) rfl (.inr (by kernel_rfl)))
  (ss_cons (s_for (passes_of rfl) rfl (ei_rng1 rfl (gl_of (by kernel_rfl)) C.b_range (ev_var 0 rfl (.inl (by kernel_rfl)) (by decide))) (eg_name 2 S_law_perms.nd rfl (.inl (by kernel_rfl)) (by decide) (.inr (by kernel_rfl))) (ss_cons (s_set (i := 3) S_law_perms.nd rfl (.inl (by kernel_rfl)) (by decide) (ev_ofL (el_lst (ea_nil (lv := .c)))) rfl (.inr (by kernel_rfl)))
  (ss_cons (s_for (passes_of rfl) rfl (ei_seq rfl (ev_var 1 rfl (.inl (by kernel_rfl)) (by decide))) (eg_name 4 S_law_perms.nd rfl (.inr (by kernel_rfl)) (by decide) (.inl (by kernel_rfl))) (ss_one (s_set (i := 3) S_law_perms.nd rfl (.inl (by kernel_rfl)) (by decide) (x_add (ev_var 3 rfl (.inl (by kernel_rfl)) (by decide)) (ev_ofL (x_comp rfl (S_law_perms.nd) (own := [("_law_place", 5)]) (ei_rng1 rfl (gl_of (by kernel_rfl)) C.b_range (ev_var 0 rfl (.inl (by kernel_rfl)) (by decide))) (blkOk_by (by kernel_rfl)) (by decide) (by decide) (fun _ _ _ _ _ => (eg_name 5 S_law_perms.nd rfl (.inl (by kernel_rfl)) (by decide) (.inr (by kernel_rfl)))) (fun _ _ _ _ _ => (ets_one (et_cmp (cm_notIn hr) (ev_var 5 rfl (.inl (by kernel_rfl)) (by decide)) (ev_var 4 rfl (.inr (.inl (by kernel_rfl))) (by decide))))) (fun _ _ _ _ _ => (x_add (ev_var 4 rfl (.inr (.inl (by kernel_rfl))) (by decide)) (ev_tup (ea_cons (ev_var 5 rfl (.inl (by kernel_rfl)) (by decide)) (ea_nil (lv := .c)) (.inl rfl) (fun _ => rfl)))))))) rfl (.inr (by kernel_rfl)))))
  (ss_one (s_set (i := 1) S_law_perms.nd rfl (.inl (by kernel_rfl)) (by decide) (ev_var 3 rfl (.inl (by kernel_rfl)) (by decide)) rfl (.inr (by kernel_rfl)))))))
  (ss_one (s_ret (ev_var 1 rfl (.inl (by kernel_rfl)) (by decide))))))⟩
theorem S_law_gcd : FnScope ["_law_one", "_law_other", "_law_again"] ["_law_one", "_law_other"] (defScope s_law_gcd) := ⟨rfl, rfl, rfl, by decide +kernel, rfl, by decide +kernel, by decide +kernel⟩
def F_law_gcd : FS :=
  (sSeq (sFor (fRng1 (fOp opAdd (fOp opAdd (fVar 0) (fVar 1)) (fC (.int 1)))) (gfN 2) (sSeq (sIf (fTst (fOp opEq (fVar 1) (fC (.int 0)))) sBk sNx)
  (sPar 0 1 (fVar 1) (fOp opSub (fVar 0) (fOp opMul (fOp opDiv (fVar 0) (fVar 1)) (fVar 1))))))
  (sRet (fVar 0)))
def m_law_gcd : List D → Res := runF F_law_gcd 3 2
theorem ok_law_gcd {P : Program} {w : World} {K : PySem.W.Frag} {mg : Str → Option Value} {base : Heap} (C : Facts K mg) : Good P w K mg base "_law_gcd" ["_law_one", "_law_other"] 1 (spF K 2 m_law_gcd) :=
  good_fn (N := ["_law_one", "_law_other", "_law_again"]) (k := 0) (M := []) C.f_law_gcd S_law_gcd rfl (fun _ _ _ _ _ _ us hl => match us, hl with | [_, _], _ => rfl) (by decide) fun f cdv A outer s H E hr => ⟨_, (ss_cons (s_for (passes_of rfl) rfl (ei_rng1 rfl (gl_of (by kernel_rfl)) C.b_range (x_add (x_add (ev_var 0 rfl (.inl (by kernel_rfl)) (by decide)) (ev_var 1 rfl (.inl (by kernel_rfl)) (by decide))) ev_int)) (eg_name 2 S_law_gcd.nd rfl (.inl (by kernel_rfl)) (by decide) (.inr (by kernel_rfl))) (ss_cons (s_if (et_cmp (cm_eq hr) (ev_var 1 rfl (.inl (by kernel_rfl)) (by decide)) ev_int) (ss_one s_break) ss_nil)
  (ss_one (s_par (i := 0) (j := 1) rfl S_law_gcd.nd rfl rfl (by decide) (by kernel_rfl) (by kernel_rfl) (by decide) (by decide) (ev_var 1 rfl (.inl (by kernel_rfl)) (by decide)) (x_sub (ev_var 0 rfl (.inl (by kernel_rfl)) (by decide)) (x_mul (x_div (ev_var 0 rfl (.inl (by kernel_rfl)) (by decide)) (ev_var 1 rfl (.inl (by kernel_rfl)) (by decide))) (ev_var 1 rfl (.inl (by kernel_rfl)) (by decide)))) rfl))))
  (ss_one (s_ret (ev_var 0 rfl (.inl (by kernel_rfl)) (by decide)))))⟩
theorem S_law_sums : FnScope ["_law_text", "_law_found", "_law_bit"] ["_law_text"] (defScope s_law_sums) := ⟨rfl, rfl, rfl, by decide +kernel, rfl, by decide +kernel, by decide +kernel⟩
def F_law_sums : FS :=
  (sSeq (sSetL 1 (fLstL (fCons (fC (.int 0)) fNil)))
  (sSeq (sFor (fIt (fVar 0)) (gfN 2) (sApp 1 (fOp opAdd (fOwnIx 1 (fUn unNeg (fC (.int 1)))) (fCall bInt (fCons (fOp opEq (fVar 2) (fC (.str [49]))) fNil)))))
  (sRet (fVar 1))))
def m_law_sums : List D → Res := runF F_law_sums 3 1
theorem ok_law_sums {P : Program} {w : World} {K : PySem.W.Frag} {mg : Str → Option Value} {base : Heap} (C : Facts K mg) : Good P w K mg base "_law_sums" ["_law_text"] 1 (spF K 1 m_law_sums) :=
  good_fn (N := ["_law_text", "_law_found", "_law_bit"]) (k := 0) (M := [1]) C.f_law_sums S_law_sums rfl (fun _ _ _ _ _ _ us hl => match us, hl with | [_], _ => rfl) (by decide) fun f cdv A outer s H E hr => ⟨_, (ss_cons (s_setL (i := 1) S_law_sums.nd rfl (.inl (by kernel_rfl)) (by decide) (by decide) (el_lst (ea_cons ev_int (ea_nil (lv := .c)) (.inl rfl) (fun _ => rfl))) rfl (.inr (by kernel_rfl)))
  (ss_cons (s_for (passes_of rfl) rfl (ei_seq rfl (ev_var 0 rfl (.inl (by kernel_rfl)) (by decide))) (eg_name 2 S_law_sums.nd rfl (.inl (by kernel_rfl)) (by decide) (.inr (by kernel_rfl))) (ss_one (s_app (i := 1) rfl rfl (.inl (by kernel_rfl)) (by decide) (x_add (ev_ownIx (i := 1) rfl rfl (.inl (by kernel_rfl)) (by decide) (fun _ _ => rfl) (ev_neg ev_int)) (ev_callTy (lv := .c) call_int1 cf_int (gl_of (by kernel_rfl)) C.b_int (by decide +kernel) (ea_cons (x_cmp (cm_eq hr) (ev_var 2 rfl (.inl (by kernel_rfl)) (by decide)) (ev_str [49])) (ea_nil (lv := .c)) (.inl rfl) (fun _ => rfl)) (.inr (.inr sc_int)))))))
  (ss_one (s_ret (ev_own 1 rfl (.inl (by kernel_rfl)) (by decide) (by decide))))))⟩
theorem S_law_bits : FnScope ["_law_word_here", "_law_many", "_law_text", "_law_again"] ["_law_word_here", "_law_many"] (defScope s_law_bits) := ⟨rfl, rfl, rfl, by decide +kernel, rfl, by decide +kernel, by decide +kernel⟩
def F_law_bits : FS :=
  (sSeq (sSet 2 (fOp opIx (fVar 0) (fC (.int 0))))
  (sSeq (sFor (fRng1 (fOp opAdd (fOp opDiv (fVar 1) (fCall bLen (fCons (fOp opIx (fVar 0) (fC (.int 1))) fNil))) (fC (.int 1)))) (gfN 3) (sSet 2 (fOp opAdd (fVar 2) (fOp opIx (fVar 0) (fC (.int 1))))))
  (sRet (fSl (fVar 2) fNoPart (fPart (fVar 1))))))
def m_law_bits : List D → Res := runF F_law_bits 4 2
theorem ok_law_bits {P : Program} {w : World} {K : PySem.W.Frag} {mg : Str → Option Value} {base : Heap} (C : Facts K mg) : Good P w K mg base "_law_bits" ["_law_word_here", "_law_many"] 1 (spF K 2 m_law_bits) :=
  good_fn (N := ["_law_word_here", "_law_many", "_law_text", "_law_again"]) (k := 0) (M := []) C.f_law_bits S_law_bits rfl (fun _ _ _ _ _ _ us hl => match us, hl with | [_, _], _ => rfl) (by decide) fun f cdv A outer s H E hr => ⟨_, (ss_cons (s_set (i := 2) S_law_bits.nd rfl (.inl (by kernel_rfl)) (by decide) (ev_ix rfl (fun _ _ => rfl) (ev_var 0 rfl (.inl (by kernel_rfl)) (by decide)) ev_int) rfl (.inr (by kernel_rfl)))
  (ss_cons (s_for (passes_of rfl) rfl (ei_rng1 rfl (gl_of (by kernel_rfl)) C.b_range (x_add (x_div (ev_var 1 rfl (.inl (by kernel_rfl)) (by decide)) (ev_callB (lv := .c) call_len cf_len (gl_of (by kernel_rfl)) C.b_len (by decide +kernel) (ea_cons (ev_ix rfl (fun _ _ => rfl) (ev_var 0 rfl (.inl (by kernel_rfl)) (by decide)) ev_int) (ea_nil (lv := .c)) (.inl rfl) (fun _ => rfl)) (.inr (.inr sc_len)))) ev_int)) (eg_name 3 S_law_bits.nd rfl (.inl (by kernel_rfl)) (by decide) (.inr (by kernel_rfl))) (ss_one (s_set (i := 2) S_law_bits.nd rfl (.inl (by kernel_rfl)) (by decide) (x_add (ev_var 2 rfl (.inl (by kernel_rfl)) (by decide)) (ev_ix rfl (fun _ _ => rfl) (ev_var 0 rfl (.inl (by kernel_rfl)) (by decide)) ev_int)) rfl (.inr (by kernel_rfl)))))
  (ss_one (s_ret (ev_sl rfl (ev_var 2 rfl (.inl (by kernel_rfl)) (by decide)) eo_none (eo_some (ev_var 1 rfl (.inl (by kernel_rfl)) (by decide))))))))⟩
theorem S_law_is_normal : FnScope ["_law_word_here", "_law_start", "_law_again", "_law_much"] ["_law_word_here"] (defScope s_law_is_normal) := ⟨rfl, rfl, rfl, by decide +kernel, rfl, by decide +kernel, by decide +kernel⟩
def F_law_is_normal : FS :=
  (sSeq (sAsg (fVar 0) (gfT 2 (gfC (gfN 1) (gfC (gfN 2) gfNil))))
  (sSeq (sFor (fRng2 (fC (.int 1)) (fCall bLen (fCons (fVar 2) fNil))) (gfN 3) (sIf (fAnd (fTst (fOp opEq (fOp opMul (fOp opDiv (fCall bLen (fCons (fVar 2) fNil)) (fVar 3)) (fVar 3)) (fCall bLen (fCons (fVar 2) fNil)))) (fTst (fOp opEq (fVar 2) (fOp opMul (fSl (fVar 2) fNoPart (fPart (fVar 3))) (fOp opDiv (fCall bLen (fCons (fVar 2) fNil)) (fVar 3)))))) (sRet (fC (.bl false))) sNx))
  (sRet (fOrV (fOp opEq (fVar 1) (fC (.str []))) (fOp opNe (fOp opIx (fVar 1) (fUn unNeg (fC (.int 1)))) (fOp opIx (fVar 2) (fUn unNeg (fC (.int 1)))))))))
def m_law_is_normal : List D → Res := runF F_law_is_normal 4 1
theorem ok_law_is_normal {P : Program} {w : World} {K : PySem.W.Frag} {mg : Str → Option Value} {base : Heap} (C : Facts K mg) : Good P w K mg base "_law_is_normal" ["_law_word_here"] 1 (spF K 1 m_law_is_normal) :=
  good_fn (N := ["_law_word_here", "_law_start", "_law_again", "_law_much"]) (k := 0) (M := []) C.f_law_is_normal S_law_is_normal rfl (fun _ _ _ _ _ _ us hl => match us, hl with | [_], _ => rfl) (by decide) fun f cdv A outer s H E hr => ⟨_, (ss_cons (s_asg (ev_var 0 rfl (.inl (by kernel_rfl)) (by decide)) (eg_tup rfl rfl (egs_cons (eg_name 1 S_law_is_normal.nd rfl (.inl (by kernel_rfl)) (by decide) (.inr (by kernel_rfl))) (egs_cons (eg_name 2 S_law_is_normal.nd rfl (.inl (by kernel_rfl)) (by decide) (.inr (by kernel_rfl))) egs_nil))))
  (ss_cons (s_for (passes_of rfl) rfl (ei_rng2 rfl (gl_of (by kernel_rfl)) C.b_range ev_int (ev_callB (lv := .c) call_len cf_len (gl_of (by kernel_rfl)) C.b_len (by decide +kernel) (ea_cons (ev_var 2 rfl (.inl (by kernel_rfl)) (by decide)) (ea_nil (lv := .c)) (.inl rfl) (fun _ => rfl)) (.inr (.inr sc_len)))) (eg_name 3 S_law_is_normal.nd rfl (.inl (by kernel_rfl)) (by decide) (.inr (by kernel_rfl))) (ss_one (s_if (EwT.et (ew_and (et_cmp (cm_eq hr) (x_mul (x_div (ev_callB (lv := .c) call_len cf_len (gl_of (by kernel_rfl)) C.b_len (by decide +kernel) (ea_cons (ev_var 2 rfl (.inl (by kernel_rfl)) (by decide)) (ea_nil (lv := .c)) (.inl rfl) (fun _ => rfl)) (.inr (.inr sc_len))) (ev_var 3 rfl (.inl (by kernel_rfl)) (by decide))) (ev_var 3 rfl (.inl (by kernel_rfl)) (by decide))) (ev_callB (lv := .c) call_len cf_len (gl_of (by kernel_rfl)) C.b_len (by decide +kernel) (ea_cons (ev_var 2 rfl (.inl (by kernel_rfl)) (by decide)) (ea_nil (lv := .c)) (.inl rfl) (fun _ => rfl)) (.inr (.inr sc_len)))) (ew_and1 (et_cmp (cm_eq hr) (ev_var 2 rfl (.inl (by kernel_rfl)) (by decide)) (x_mul (ev_sl rfl (ev_var 2 rfl (.inl (by kernel_rfl)) (by decide)) eo_none (eo_some (ev_var 3 rfl (.inl (by kernel_rfl)) (by decide)))) (x_div (ev_callB (lv := .c) call_len cf_len (gl_of (by kernel_rfl)) C.b_len (by decide +kernel) (ea_cons (ev_var 2 rfl (.inl (by kernel_rfl)) (by decide)) (ea_nil (lv := .c)) (.inl rfl) (fun _ => rfl)) (.inr (.inr sc_len))) (ev_var 3 rfl (.inl (by kernel_rfl)) (by decide)))))))) (ss_one (s_ret ev_bl)) ss_nil)))
  (ss_one (s_ret (ev_or (x_cmp (cm_eq hr) (ev_var 1 rfl (.inl (by kernel_rfl)) (by decide)) (ev_str [])) (ev_one (x_cmp (cm_ne hr) (ev_ix rfl (fun _ _ => rfl) (ev_var 1 rfl (.inl (by kernel_rfl)) (by decide)) (ev_neg ev_int)) (ev_ix rfl (fun _ _ => rfl) (ev_var 2 rfl (.inl (by kernel_rfl)) (by decide)) (ev_neg ev_int)))))))))⟩
theorem S_need_number : FnScope ["value", "low", "high"] ["value", "low", "high"] (defScope s_need_number) := ⟨rfl, rfl, rfl, by decide +kernel, rfl, by decide +kernel, by decide +kernel⟩
def F_need_number : FS :=
  (sIf (fNot (fTst (fCallF m_within (fCons (fVar 0) (fCons (fVar 1) (fCons (fVar 2) fNil)))))) sBad sNx)
def m_need_number : List D → Res := runF F_need_number 3 3
theorem ok_need_number {P : Program} {w : World} {K : PySem.W.Frag} {mg : Str → Option Value} {base : Heap} (C : Facts K mg) : Good P w K mg base "need_number" ["value", "low", "high"] 2 (spF K 3 m_need_number) :=
  good_fn (N := ["value", "low", "high"]) (k := 1) (M := []) C.f_need_number S_need_number rfl (fun _ _ _ _ _ _ us hl => match us, hl with | [_, _, _], _ => rfl) (by decide) fun f cdv A outer s H E hr => ⟨_, (ss_one (s_if (et_not (et_val (x_call (ok_within C) hr (takes_of rfl rfl rfl rfl) (ea_cons (ev_var 0 rfl (.inl (by kernel_rfl)) (by decide)) (ea_cons (ev_var 1 rfl (.inl (by kernel_rfl)) (by decide)) (ea_cons (ev_var 2 rfl (.inl (by kernel_rfl)) (by decide)) (ea_nil (lv := .c)) (.inl rfl) (fun _ => rfl)) (.inl rfl) (fun _ => rfl)) (.inl rfl) (fun _ => rfl)) (len_cons (len_cons (len_cons len_nil))) rfl (by decide) (gl_of (by kernel_rfl))))) (ss_one s_bad) ss_nil))⟩
theorem S_is_word : FnScope ["value"] ["value"] (defScope s_is_word) := ⟨rfl, rfl, rfl, by decide +kernel, rfl, by decide +kernel, by decide +kernel⟩
def F_is_word : FS :=
  (sRet (fAndV (fIsi "tuple" (fVar 0)) (fAndV (fOp opEq (fCall bLen (fCons (fVar 0) fNil)) (fC (.int 2))) (fAndV (fCallF m_is_bits (fCons (fOp opIx (fVar 0) (fC (.int 0))) (fCons (fC (.int 0)) fNil))) (fCallF m_is_bits (fCons (fOp opIx (fVar 0) (fC (.int 1))) (fCons (fC (.int 1)) fNil)))))))
def m_is_word : List D → Res := runF F_is_word 1 1
theorem ok_is_word {P : Program} {w : World} {K : PySem.W.Frag} {mg : Str → Option Value} {base : Heap} (C : Facts K mg) : Good P w K mg base "is_word" ["value"] 2 (spF K 1 m_is_word) :=
  good_fn (N := ["value"]) (k := 1) (M := []) C.f_is_word S_is_word rfl (fun _ _ _ _ _ _ us hl => match us, hl with | [_], _ => rfl) (by decide) fun f cdv A outer s H E hr => ⟨_, (ss_one (s_ret (ev_and (ev_isi "tuple" rfl (by decide) rfl (gl_of (by kernel_rfl)) C.b_isinstance (gl_of (by kernel_rfl)) C.b_tuple (by decide +kernel) (ev_var 0 rfl (.inl (by kernel_rfl)) (by decide))) (ev_and (x_cmp (cm_eq hr) (ev_callB (lv := .c) call_len cf_len (gl_of (by kernel_rfl)) C.b_len (by decide +kernel) (ea_cons (ev_var 0 rfl (.inl (by kernel_rfl)) (by decide)) (ea_nil (lv := .c)) (.inl rfl) (fun _ => rfl)) (.inr (.inr sc_len))) ev_int) (ev_and (x_call (ok_is_bits C) hr (takes_of rfl rfl rfl rfl) (ea_cons (ev_ix rfl (fun _ _ => rfl) (ev_var 0 rfl (.inl (by kernel_rfl)) (by decide)) ev_int) (ea_cons ev_int (ea_nil (lv := .c)) (.inl rfl) (fun _ => rfl)) (.inl rfl) (fun _ => rfl)) (len_cons (len_cons len_nil)) rfl (by decide) (gl_of (by kernel_rfl))) (ev_one (x_call (ok_is_bits C) hr (takes_of rfl rfl rfl rfl) (ea_cons (ev_ix rfl (fun _ _ => rfl) (ev_var 0 rfl (.inl (by kernel_rfl)) (by decide)) ev_int) (ea_cons ev_int (ea_nil (lv := .c)) (.inl rfl) (fun _ => rfl)) (.inl rfl) (fun _ => rfl)) (len_cons (len_cons len_nil)) rfl (by decide) (gl_of (by kernel_rfl)))))))))⟩
theorem S_normal_of : FnScope ["word", "start", "turn"] ["word"] (defScope s_normal_of) := ⟨rfl, rfl, rfl, by decide +kernel, rfl, by decide +kernel, by decide +kernel⟩
def F_normal_of : FS :=
  (sSeq (sPar 1 2 (fOp opIx (fVar 0) (fC (.int 0))) (fCallF m_shortest (fCons (fOp opIx (fVar 0) (fC (.int 1))) fNil)))
  (sSeq (sWhile (fAnd (fTst (fOp opNe (fVar 1) (fC (.str [])))) (fTst (fOp opEq (fOp opIx (fVar 1) (fUn unNeg (fC (.int 1)))) (fOp opIx (fVar 2) (fUn unNeg (fC (.int 1))))))) (sPar 1 2 (fSl (fVar 1) fNoPart (fPart (fUn unNeg (fC (.int 1))))) (fOp opAdd (fOp opIx (fVar 2) (fUn unNeg (fC (.int 1)))) (fSl (fVar 2) fNoPart (fPart (fUn unNeg (fC (.int 1))))))))
  (sRet (fTup (fCons (fVar 1) (fCons (fVar 2) fNil))))))
def m_normal_of : List D → Res := runF F_normal_of 3 1
theorem ok_normal_of {P : Program} {w : World} {K : PySem.W.Frag} {mg : Str → Option Value} {base : Heap} (C : Facts K mg) : Good P w K mg base "normal_of" ["word"] 2 (spF K 1 m_normal_of) :=
  good_fn (N := ["word", "start", "turn"]) (k := 1) (M := []) C.f_normal_of S_normal_of rfl (fun _ _ _ _ _ _ us hl => match us, hl with | [_], _ => rfl) (by decide) fun f cdv A outer s H E hr => ⟨_, (ss_cons (s_par (i := 1) (j := 2) rfl S_normal_of.nd rfl rfl (by decide) (by kernel_rfl) (by kernel_rfl) (by decide) (by decide) (ev_ix rfl (fun _ _ => rfl) (ev_var 0 rfl (.inl (by kernel_rfl)) (by decide)) ev_int) (x_call (ok_shortest C) hr (takes_of rfl rfl rfl rfl) (ea_cons (ev_ix rfl (fun _ _ => rfl) (ev_var 0 rfl (.inl (by kernel_rfl)) (by decide)) ev_int) (ea_nil (lv := .c)) (.inl rfl) (fun _ => rfl)) (len_cons len_nil) rfl (by decide) (gl_of (by kernel_rfl))) rfl)
  (ss_cons (s_while (passes_of rfl) (EwT.et (ew_and (et_cmp (cm_ne hr) (ev_var 1 rfl (.inl (by kernel_rfl)) (by decide)) (ev_str [])) (ew_and1 (et_cmp (cm_eq hr) (ev_ix rfl (fun _ _ => rfl) (ev_var 1 rfl (.inl (by kernel_rfl)) (by decide)) (ev_neg ev_int)) (ev_ix rfl (fun _ _ => rfl) (ev_var 2 rfl (.inl (by kernel_rfl)) (by decide)) (ev_neg ev_int)))))) (ss_one (s_par (i := 1) (j := 2) rfl S_normal_of.nd rfl rfl (by decide) (by kernel_rfl) (by kernel_rfl) (by decide) (by decide) (ev_sl rfl (ev_var 1 rfl (.inl (by kernel_rfl)) (by decide)) eo_none (eo_some (ev_neg ev_int))) (x_add (ev_ix rfl (fun _ _ => rfl) (ev_var 2 rfl (.inl (by kernel_rfl)) (by decide)) (ev_neg ev_int)) (ev_sl rfl (ev_var 2 rfl (.inl (by kernel_rfl)) (by decide)) eo_none (eo_some (ev_neg ev_int)))) rfl)))
  (ss_one (s_ret (ev_tup (ea_cons (ev_var 1 rfl (.inl (by kernel_rfl)) (by decide)) (ea_cons (ev_var 2 rfl (.inl (by kernel_rfl)) (by decide)) (ea_nil (lv := .c)) (.inl rfl) (fun _ => rfl)) (.inl rfl) (fun _ => rfl)))))))⟩
theorem S_paired : FnScope ["one", "other"] ["one", "other"] (defScope s_paired) := ⟨rfl, rfl, rfl, by decide +kernel, rfl, by decide +kernel, by decide +kernel⟩
def F_paired : FS :=
  (sRet (fTup (fCons (fCall bMax2 (fCons (fCall bLen (fCons (fOp opIx (fVar 0) (fC (.int 0))) fNil)) (fCons (fCall bLen (fCons (fOp opIx (fVar 1) (fC (.int 0))) fNil)) fNil))) (fCons (fCallF m_lcm_of (fCons (fCall bLen (fCons (fOp opIx (fVar 0) (fC (.int 1))) fNil)) (fCons (fCall bLen (fCons (fOp opIx (fVar 1) (fC (.int 1))) fNil)) fNil))) fNil))))
def m_paired : List D → Res := runF F_paired 2 2
theorem ok_paired {P : Program} {w : World} {K : PySem.W.Frag} {mg : Str → Option Value} {base : Heap} (C : Facts K mg) : Good P w K mg base "paired" ["one", "other"] 2 (spF K 2 m_paired) :=
  good_fn (N := ["one", "other"]) (k := 1) (M := []) C.f_paired S_paired rfl (fun _ _ _ _ _ _ us hl => match us, hl with | [_, _], _ => rfl) (by decide) fun f cdv A outer s H E hr => ⟨_, (ss_one (s_ret (ev_tup (ea_cons (ev_callB (lv := .c) (call_max2 rfl) cf_max2 (gl_of (by kernel_rfl)) C.b_max (by decide +kernel) (ea_cons (ev_callB (lv := .c) call_len cf_len (gl_of (by kernel_rfl)) C.b_len (by decide +kernel) (ea_cons (ev_ix rfl (fun _ _ => rfl) (ev_var 0 rfl (.inl (by kernel_rfl)) (by decide)) ev_int) (ea_nil (lv := .c)) (.inl rfl) (fun _ => rfl)) (.inr (.inr sc_len))) (ea_cons (ev_callB (lv := .c) call_len cf_len (gl_of (by kernel_rfl)) C.b_len (by decide +kernel) (ea_cons (ev_ix rfl (fun _ _ => rfl) (ev_var 1 rfl (.inl (by kernel_rfl)) (by decide)) ev_int) (ea_nil (lv := .c)) (.inl rfl) (fun _ => rfl)) (.inr (.inr sc_len))) (ea_nil (lv := .c)) (.inl rfl) (fun _ => rfl)) (.inl rfl) (fun _ => rfl)) (.inr (.inr sc_max2))) (ea_cons (x_call (ok_lcm_of C) hr (takes_of rfl rfl rfl rfl) (ea_cons (ev_callB (lv := .c) call_len cf_len (gl_of (by kernel_rfl)) C.b_len (by decide +kernel) (ea_cons (ev_ix rfl (fun _ _ => rfl) (ev_var 0 rfl (.inl (by kernel_rfl)) (by decide)) ev_int) (ea_nil (lv := .c)) (.inl rfl) (fun _ => rfl)) (.inr (.inr sc_len))) (ea_cons (ev_callB (lv := .c) call_len cf_len (gl_of (by kernel_rfl)) C.b_len (by decide +kernel) (ea_cons (ev_ix rfl (fun _ _ => rfl) (ev_var 1 rfl (.inl (by kernel_rfl)) (by decide)) ev_int) (ea_nil (lv := .c)) (.inl rfl) (fun _ => rfl)) (.inr (.inr sc_len))) (ea_nil (lv := .c)) (.inl rfl) (fun _ => rfl)) (.inl rfl) (fun _ => rfl)) (len_cons (len_cons len_nil)) rfl (by decide) (gl_of (by kernel_rfl))) (ea_nil (lv := .c)) (.inl rfl) (fun _ => rfl)) (.inl rfl) (fun _ => rfl)))))⟩
theorem S_drift : FnScope ["one", "other", "turn"] ["one", "other"] (defScope s_drift) := ⟨rfl, rfl, rfl, by decide +kernel, rfl, by decide +kernel, by decide +kernel⟩
def F_drift : FS :=
  (sSeq (sSet 2 (fCallF m_lcm_of (fCons (fCall bLen (fCons (fOp opIx (fVar 0) (fC (.int 1))) fNil)) (fCons (fCall bLen (fCons (fOp opIx (fVar 1) (fC (.int 1))) fNil)) fNil))))
  (sRet (fOp opSub (fOp opMul (fOp opDiv (fVar 2) (fCall bLen (fCons (fOp opIx (fVar 0) (fC (.int 1))) fNil))) (fM1 bCount (fOp opIx (fVar 0) (fC (.int 1))) (fC (.str [49])))) (fOp opMul (fOp opDiv (fVar 2) (fCall bLen (fCons (fOp opIx (fVar 1) (fC (.int 1))) fNil))) (fM1 bCount (fOp opIx (fVar 1) (fC (.int 1))) (fC (.str [49])))))))
def m_drift : List D → Res := runF F_drift 3 2
theorem ok_drift {P : Program} {w : World} {K : PySem.W.Frag} {mg : Str → Option Value} {base : Heap} (C : Facts K mg) : Good P w K mg base "drift" ["one", "other"] 2 (spF K 2 m_drift) :=
  good_fn (N := ["one", "other", "turn"]) (k := 1) (M := []) C.f_drift S_drift rfl (fun _ _ _ _ _ _ us hl => match us, hl with | [_, _], _ => rfl) (by decide) fun f cdv A outer s H E hr => ⟨_, (ss_cons (s_set (i := 2) S_drift.nd rfl (.inl (by kernel_rfl)) (by decide) (x_call (ok_lcm_of C) hr (takes_of rfl rfl rfl rfl) (ea_cons (ev_callB (lv := .c) call_len cf_len (gl_of (by kernel_rfl)) C.b_len (by decide +kernel) (ea_cons (ev_ix rfl (fun _ _ => rfl) (ev_var 0 rfl (.inl (by kernel_rfl)) (by decide)) ev_int) (ea_nil (lv := .c)) (.inl rfl) (fun _ => rfl)) (.inr (.inr sc_len))) (ea_cons (ev_callB (lv := .c) call_len cf_len (gl_of (by kernel_rfl)) C.b_len (by decide +kernel) (ea_cons (ev_ix rfl (fun _ _ => rfl) (ev_var 1 rfl (.inl (by kernel_rfl)) (by decide)) ev_int) (ea_nil (lv := .c)) (.inl rfl) (fun _ => rfl)) (.inr (.inr sc_len))) (ea_nil (lv := .c)) (.inl rfl) (fun _ => rfl)) (.inl rfl) (fun _ => rfl)) (len_cons (len_cons len_nil)) rfl (by decide) (gl_of (by kernel_rfl))) rfl (.inr (by kernel_rfl)))
  (ss_one (s_ret (x_sub (x_mul (x_div (ev_var 2 rfl (.inl (by kernel_rfl)) (by decide)) (ev_callB (lv := .c) call_len cf_len (gl_of (by kernel_rfl)) C.b_len (by decide +kernel) (ea_cons (ev_ix rfl (fun _ _ => rfl) (ev_var 0 rfl (.inl (by kernel_rfl)) (by decide)) ev_int) (ea_nil (lv := .c)) (.inl rfl) (fun _ => rfl)) (.inr (.inr sc_len)))) (ev_count (ev_ix rfl (fun _ _ => rfl) (ev_var 0 rfl (.inl (by kernel_rfl)) (by decide)) ev_int) (ev_str [49]))) (x_mul (x_div (ev_var 2 rfl (.inl (by kernel_rfl)) (by decide)) (ev_callB (lv := .c) call_len cf_len (gl_of (by kernel_rfl)) C.b_len (by decide +kernel) (ea_cons (ev_ix rfl (fun _ _ => rfl) (ev_var 1 rfl (.inl (by kernel_rfl)) (by decide)) ev_int) (ea_nil (lv := .c)) (.inl rfl) (fun _ => rfl)) (.inr (.inr sc_len)))) (ev_count (ev_ix rfl (fun _ _ => rfl) (ev_var 1 rfl (.inl (by kernel_rfl)) (by decide)) ev_int) (ev_str [49])))))))⟩
theorem S_told_count : FnScope ["one", "other", "beat", "most", "some"] ["one", "other", "beat", "most"] (defScope s_told_count) := ⟨rfl, rfl, rfl, by decide +kernel, rfl, by decide +kernel, by decide +kernel⟩
def F_told_count : FS :=
  (sSeq (sSet 4 (fOfL (fLstL (fCons (fCallF m_ones_of (fCons (fVar 0) (fCons (fVar 2) fNil))) (fCons (fCallF m_ones_of (fCons (fVar 1) (fCons (fVar 2) fNil))) fNil)))))
  (sRet (fIf (fTst (fVar 3)) (fCall bMaxL (fCons (fVar 4) fNil)) (fCall bMinL (fCons (fVar 4) fNil)))))
def m_told_count : List D → Res := runF F_told_count 5 4
theorem ok_told_count {P : Program} {w : World} {K : PySem.W.Frag} {mg : Str → Option Value} {base : Heap} (C : Facts K mg) : Good P w K mg base "told_count" ["one", "other", "beat", "most"] 2 (spF K 4 m_told_count) :=
  good_fn (N := ["one", "other", "beat", "most", "some"]) (k := 1) (M := []) C.f_told_count S_told_count rfl (fun _ _ _ _ _ _ us hl => match us, hl with | [_, _, _, _], _ => rfl) (by decide) fun f cdv A outer s H E hr => ⟨_, (ss_cons (s_set (i := 4) S_told_count.nd rfl (.inl (by kernel_rfl)) (by decide) (ev_ofL (el_lst (ea_cons (x_call (ok_ones_of C) hr (takes_of rfl rfl rfl rfl) (ea_cons (ev_var 0 rfl (.inl (by kernel_rfl)) (by decide)) (ea_cons (ev_var 2 rfl (.inl (by kernel_rfl)) (by decide)) (ea_nil (lv := .c)) (.inl rfl) (fun _ => rfl)) (.inl rfl) (fun _ => rfl)) (len_cons (len_cons len_nil)) rfl (by decide) (gl_of (by kernel_rfl))) (ea_cons (x_call (ok_ones_of C) hr (takes_of rfl rfl rfl rfl) (ea_cons (ev_var 1 rfl (.inl (by kernel_rfl)) (by decide)) (ea_cons (ev_var 2 rfl (.inl (by kernel_rfl)) (by decide)) (ea_nil (lv := .c)) (.inl rfl) (fun _ => rfl)) (.inl rfl) (fun _ => rfl)) (len_cons (len_cons len_nil)) rfl (by decide) (gl_of (by kernel_rfl))) (ea_nil (lv := .c)) (.inl rfl) (fun _ => rfl)) (.inl rfl) (fun _ => rfl)))) rfl (.inr (by kernel_rfl)))
  (ss_one (s_ret (ev_if (et_val (ev_var 3 rfl (.inl (by kernel_rfl)) (by decide))) (ev_callB (lv := .c) (cr_max rfl) cf_max (gl_of (by kernel_rfl)) C.b_max (by decide +kernel) (ea_cons (ev_var 4 rfl (.inl (by kernel_rfl)) (by decide)) (ea_nil (lv := .c)) (.inl rfl) (fun _ => rfl)) (.inr (.inr sc_maxl))) (ev_callB (lv := .c) (cr_min rfl) cf_min (gl_of (by kernel_rfl)) C.b_min (by decide +kernel) (ea_cons (ev_var 4 rfl (.inl (by kernel_rfl)) (by decide)) (ea_nil (lv := .c)) (.inl rfl) (fun _ => rfl)) (.inr (.inr sc_minl)))))))⟩
theorem S_law_word : FnScope ["_law_row", "_law_most", "_law_start", "_law_again"] ["_law_row", "_law_most"] (defScope s_law_word) := ⟨rfl, rfl, rfl, by decide +kernel, rfl, by decide +kernel, by decide +kernel⟩
def F_law_word : FS :=
  (sSeq (sSet 2 (fM1 bJoin (fC (.str [])) (fOfL (fCompT [3] [0] (fRng1 (fRow 0 m_law_taken (fCons (fVar 1) fNil))) (gfN 3) (fOp opIx (fC (.str [48, 49])) (fRow 0 m_law_taken (fCons (fC (.int 2)) fNil)))))))
  (sRet (fTup (fCons (fVar 2) (fCons (fM1 bJoin (fC (.str [])) (fOfL (fCompT [3] [0] (fRng1 (fOp opAdd (fC (.int 1)) (fRow 0 m_law_taken (fCons (fVar 1) fNil)))) (gfN 3) (fOp opIx (fC (.str [48, 49])) (fRow 0 m_law_taken (fCons (fC (.int 2)) fNil)))))) fNil)))))
def m_law_word : List D → List D → ResR := runR F_law_word 4 1
theorem ok_law_word {P : Program} {w : World} {K : PySem.W.Frag} {mg : Str → Option Value} {base : Heap} (C : Facts K mg) : Good P w K mg base "_law_word" ["_law_row", "_law_most"] 2 (spR K 1 m_law_word) :=
  good_row (N := ["_law_row", "_law_most", "_law_start", "_law_again"]) (k := 1) (M := [0]) C.f_law_word S_law_word rfl (fun _ _ _ _ _ _ us hl => match us, hl with | [_, _], _ => rfl) (by decide) (by decide) fun f cdv A outer s H E hr => ⟨_, (ss_cons (s_set (i := 2) S_law_word.nd rfl (.inl (by kernel_rfl)) (by decide) (ev_join rfl (ev_str []) (ev_ofL (el_compT rfl (S_law_word.nd) (own := [("_law_again", 3)]) (ei_rng1 rfl (gl_of (by kernel_rfl)) C.b_range (x_row (i := 0) (ok_law_taken C) hr (takes_of rfl rfl rfl rfl) rfl rfl (.inr (.inl (by kernel_rfl))) (by decide) (ea_cons (ev_var 1 rfl (.inl (by kernel_rfl)) (by decide)) (ea_nil (lv := .c)) (.inl rfl) (fun _ => rfl)) (len_cons len_nil) rfl (by decide) (gl_of (by kernel_rfl)))) (blkOk_by (by kernel_rfl)) (by decide) (by decide) (fun _ _ _ _ _ => (eg_name 3 S_law_word.nd rfl (.inl (by kernel_rfl)) (by decide) (.inr (by kernel_rfl)))) (fun _ _ _ _ _ => (ev_ix rfl (fun _ _ => rfl) (ev_str [48, 49]) (x_row (i := 0) (ok_law_taken C) hr takes0 rfl rfl (.inr (.inl (by kernel_rfl))) (by decide) (ea_cons ev_int (ea_nil (lv := .c)) (.inl rfl) (fun _ => rfl)) (len_cons len_nil) rfl (by decide) (gl_of (by kernel_rfl)))))))) rfl (.inr (by kernel_rfl)))
  (ss_one (s_ret (ev_tup (ea_cons (ev_var 2 rfl (.inl (by kernel_rfl)) (by decide)) (ea_cons (ev_join rfl (ev_str []) (ev_ofL (el_compT rfl (S_law_word.nd) (own := [("_law_again", 3)]) (ei_rng1 rfl (gl_of (by kernel_rfl)) C.b_range (x_add ev_int (x_row (i := 0) (ok_law_taken C) hr (takes_of rfl rfl rfl rfl) rfl rfl (.inr (.inl (by kernel_rfl))) (by decide) (ea_cons (ev_var 1 rfl (.inl (by kernel_rfl)) (by decide)) (ea_nil (lv := .c)) (.inl rfl) (fun _ => rfl)) (len_cons len_nil) rfl (by decide) (gl_of (by kernel_rfl))))) (blkOk_by (by kernel_rfl)) (by decide) (by decide) (fun _ _ _ _ _ => (eg_name 3 S_law_word.nd rfl (.inl (by kernel_rfl)) (by decide) (.inr (by kernel_rfl)))) (fun _ _ _ _ _ => (ev_ix rfl (fun _ _ => rfl) (ev_str [48, 49]) (x_row (i := 0) (ok_law_taken C) hr takes0 rfl rfl (.inr (.inl (by kernel_rfl))) (by decide) (ea_cons ev_int (ea_nil (lv := .c)) (.inl rfl) (fun _ => rfl)) (len_cons len_nil) rfl (by decide) (gl_of (by kernel_rfl)))))))) (ea_nil (lv := .c)) (.inl rfl) (fun _ => rfl)) (.inl rfl) (fun _ => rfl))))))⟩
theorem S_law_pick : FnScope ["_law_row", "_law_things"] ["_law_row", "_law_things"] (defScope s_law_pick) := ⟨rfl, rfl, rfl, by decide +kernel, rfl, by decide +kernel, by decide +kernel⟩
def F_law_pick : FS :=
  (sRet (fOp opIx (fVar 1) (fRow 0 m_law_taken (fCons (fCall bLen (fCons (fVar 1) fNil)) fNil))))
def m_law_pick : List D → List D → ResR := runR F_law_pick 2 1
theorem ok_law_pick {P : Program} {w : World} {K : PySem.W.Frag} {mg : Str → Option Value} {base : Heap} (C : Facts K mg) : Good P w K mg base "_law_pick" ["_law_row", "_law_things"] 2 (spR K 1 m_law_pick) :=
  good_row (N := ["_law_row", "_law_things"]) (k := 1) (M := [0]) C.f_law_pick S_law_pick rfl (fun _ _ _ _ _ _ us hl => match us, hl with | [_, _], _ => rfl) (by decide) (by decide) fun f cdv A outer s H E hr => ⟨_, (ss_one (s_ret (ev_ix rfl (fun _ _ => rfl) (ev_var 1 rfl (.inl (by kernel_rfl)) (by decide)) (x_row (i := 0) (ok_law_taken C) hr (takes_of rfl rfl rfl rfl) rfl rfl (.inl (by kernel_rfl)) (by decide) (ea_cons (ev_callB (lv := .c) call_len cf_len (gl_of (by kernel_rfl)) C.b_len (by decide +kernel) (ea_cons (ev_var 1 rfl (.inl (by kernel_rfl)) (by decide)) (ea_nil (lv := .c)) (.inl rfl) (fun _ => rfl)) (.inr (.inr sc_len))) (ea_nil (lv := .c)) (.inl rfl) (fun _ => rfl)) (len_cons len_nil) rfl (by decide) (gl_of (by kernel_rfl))))))⟩
theorem S_law_lcm : FnScope ["_law_one", "_law_other"] ["_law_one", "_law_other"] (defScope s_law_lcm) := ⟨rfl, rfl, rfl, by decide +kernel, rfl, by decide +kernel, by decide +kernel⟩
def F_law_lcm : FS :=
  (sRet (fOp opDiv (fOp opMul (fVar 0) (fVar 1)) (fCallF m_law_gcd (fCons (fVar 0) (fCons (fVar 1) fNil)))))
def m_law_lcm : List D → Res := runF F_law_lcm 2 2
theorem ok_law_lcm {P : Program} {w : World} {K : PySem.W.Frag} {mg : Str → Option Value} {base : Heap} (C : Facts K mg) : Good P w K mg base "_law_lcm" ["_law_one", "_law_other"] 2 (spF K 2 m_law_lcm) :=
  good_fn (N := ["_law_one", "_law_other"]) (k := 1) (M := []) C.f_law_lcm S_law_lcm rfl (fun _ _ _ _ _ _ us hl => match us, hl with | [_, _], _ => rfl) (by decide) fun f cdv A outer s H E hr => ⟨_, (ss_one (s_ret (x_div (x_mul (ev_var 0 rfl (.inl (by kernel_rfl)) (by decide)) (ev_var 1 rfl (.inl (by kernel_rfl)) (by decide))) (x_call (ok_law_gcd C) hr (takes_of rfl rfl rfl rfl) (ea_cons (ev_var 0 rfl (.inl (by kernel_rfl)) (by decide)) (ea_cons (ev_var 1 rfl (.inl (by kernel_rfl)) (by decide)) (ea_nil (lv := .c)) (.inl rfl) (fun _ => rfl)) (.inl rfl) (fun _ => rfl)) (len_cons (len_cons len_nil)) rfl (by decide) (gl_of (by kernel_rfl))))))⟩
theorem S_law_is_word : FnScope ["_law_word_here", "_law_text"] ["_law_word_here", "_law_text"] (defScope s_law_is_word) := ⟨rfl, rfl, rfl, by decide +kernel, rfl, by decide +kernel, by decide +kernel⟩
def F_law_is_word : FS :=
  (sSeq (sIf (fOr (fNot (fTst (fIsi "tuple" (fVar 0)))) (fTst (fOp opNe (fCall bLen (fCons (fVar 0) fNil)) (fC (.int 2))))) (sRet (fC (.bl false))) sNx)
  (sSeq (sIf (fOr (fNot (fTst (fIsi "str" (fOp opIx (fVar 0) (fC (.int 0)))))) (fNot (fTst (fIsi "str" (fOp opIx (fVar 0) (fC (.int 1))))))) (sRet (fC (.bl false))) sNx)
  (sRet (fAndV (fOp opNe (fOp opIx (fVar 0) (fC (.int 1))) (fC (.str []))) (fAndV (fCallF m_law_is_normal (fCons (fVar 0) fNil)) (fOp opEq (fCallF m_law_bits (fCons (fVar 0) (fCons (fCall bLen (fCons (fVar 1) fNil)) fNil))) (fVar 1)))))))
def m_law_is_word : List D → Res := runF F_law_is_word 2 2
theorem ok_law_is_word {P : Program} {w : World} {K : PySem.W.Frag} {mg : Str → Option Value} {base : Heap} (C : Facts K mg) : Good P w K mg base "_law_is_word" ["_law_word_here", "_law_text"] 2 (spF K 2 m_law_is_word) :=
  good_fn (N := ["_law_word_here", "_law_text"]) (k := 1) (M := []) C.f_law_is_word S_law_is_word rfl (fun _ _ _ _ _ _ us hl => match us, hl with | [_, _], _ => rfl) (by decide) fun f cdv A outer s H E hr => ⟨_, (ss_cons (s_if (EwT.et (ew_or (et_not (et_val (ev_isi "tuple" rfl (by decide) rfl (gl_of (by kernel_rfl)) C.b_isinstance (gl_of (by kernel_rfl)) C.b_tuple (by decide +kernel) (ev_var 0 rfl (.inl (by kernel_rfl)) (by decide))))) (ew_or1 (et_cmp (cm_ne hr) (ev_callB (lv := .c) call_len cf_len (gl_of (by kernel_rfl)) C.b_len (by decide +kernel) (ea_cons (ev_var 0 rfl (.inl (by kernel_rfl)) (by decide)) (ea_nil (lv := .c)) (.inl rfl) (fun _ => rfl)) (.inr (.inr sc_len))) ev_int)))) (ss_one (s_ret ev_bl)) ss_nil)
  (ss_cons (s_if (EwT.et (ew_or (et_not (et_val (ev_isi "str" rfl (by decide) rfl (gl_of (by kernel_rfl)) C.b_isinstance (gl_of (by kernel_rfl)) C.b_str (by decide +kernel) (ev_ix rfl (fun _ _ => rfl) (ev_var 0 rfl (.inl (by kernel_rfl)) (by decide)) ev_int)))) (ew_or1 (et_not (et_val (ev_isi "str" rfl (by decide) rfl (gl_of (by kernel_rfl)) C.b_isinstance (gl_of (by kernel_rfl)) C.b_str (by decide +kernel) (ev_ix rfl (fun _ _ => rfl) (ev_var 0 rfl (.inl (by kernel_rfl)) (by decide)) ev_int))))))) (ss_one (s_ret ev_bl)) ss_nil)
  (ss_one (s_ret (ev_and (x_cmp (cm_ne hr) (ev_ix rfl (fun _ _ => rfl) (ev_var 0 rfl (.inl (by kernel_rfl)) (by decide)) ev_int) (ev_str [])) (ev_and (x_call (ok_law_is_normal C) hr (takes_of rfl rfl rfl rfl) (ea_cons (ev_var 0 rfl (.inl (by kernel_rfl)) (by decide)) (ea_nil (lv := .c)) (.inl rfl) (fun _ => rfl)) (len_cons len_nil) rfl (by decide) (gl_of (by kernel_rfl))) (ev_one (x_cmp (cm_eq hr) (x_call (ok_law_bits C) hr (takes_of rfl rfl rfl rfl) (ea_cons (ev_var 0 rfl (.inl (by kernel_rfl)) (by decide)) (ea_cons (ev_callB (lv := .c) call_len cf_len (gl_of (by kernel_rfl)) C.b_len (by decide +kernel) (ea_cons (ev_var 1 rfl (.inl (by kernel_rfl)) (by decide)) (ea_nil (lv := .c)) (.inl rfl) (fun _ => rfl)) (.inr (.inr sc_len))) (ea_nil (lv := .c)) (.inl rfl) (fun _ => rfl)) (.inl rfl) (fun _ => rfl)) (len_cons (len_cons len_nil)) rfl (by decide) (gl_of (by kernel_rfl))) (ev_var 1 rfl (.inl (by kernel_rfl)) (by decide))))))))))⟩
theorem S_need_word : FnScope ["word"] ["word"] (defScope s_need_word) := ⟨rfl, rfl, rfl, by decide +kernel, rfl, by decide +kernel, by decide +kernel⟩
def F_need_word : FS :=
  (sIf (fNot (fTst (fCallF m_is_word (fCons (fVar 0) fNil)))) sBad sNx)
def m_need_word : List D → Res := runF F_need_word 1 1
theorem ok_need_word {P : Program} {w : World} {K : PySem.W.Frag} {mg : Str → Option Value} {base : Heap} (C : Facts K mg) : Good P w K mg base "need_word" ["word"] 3 (spF K 1 m_need_word) :=
  good_fn (N := ["word"]) (k := 2) (M := []) C.f_need_word S_need_word rfl (fun _ _ _ _ _ _ us hl => match us, hl with | [_], _ => rfl) (by decide) fun f cdv A outer s H E hr => ⟨_, (ss_one (s_if (et_not (et_val (x_call (ok_is_word C) hr (takes_of rfl rfl rfl rfl) (ea_cons (ev_var 0 rfl (.inl (by kernel_rfl)) (by decide)) (ea_nil (lv := .c)) (.inl rfl) (fun _ => rfl)) (len_cons len_nil) rfl (by decide) (gl_of (by kernel_rfl))))) (ss_one s_bad) ss_nil))⟩
theorem S_made : FnScope ["start", "turn", "word"] ["start", "turn"] (defScope s_made) := ⟨rfl, rfl, rfl, by decide +kernel, rfl, by decide +kernel, by decide +kernel⟩
def F_made : FS :=
  (sSeq (sSet 2 (fCallF m_normal_of (fCons (fTup (fCons (fVar 0) (fCons (fVar 1) fNil))) fNil)))
  (sSeq (sIf (fOr (fTst (fOp (opCmp fun i j => decide (j < i)) (fCall bLen (fCons (fOp opIx (fVar 2) (fC (.int 0))) fNil)) (fC (.int 400)))) (fTst (fOp (opCmp fun i j => decide (j < i)) (fCall bLen (fCons (fOp opIx (fVar 2) (fC (.int 1))) fNil)) (fC (.int 400))))) sBad sNx)
  (sRet (fVar 2))))
def m_made : List D → Res := runF F_made 3 2
theorem ok_made {P : Program} {w : World} {K : PySem.W.Frag} {mg : Str → Option Value} {base : Heap} (C : Facts K mg) : Good P w K mg base "made" ["start", "turn"] 3 (spF K 2 m_made) :=
  good_fn (N := ["start", "turn", "word"]) (k := 2) (M := []) C.f_made S_made rfl (fun _ _ _ _ _ _ us hl => match us, hl with | [_, _], _ => rfl) (by decide) fun f cdv A outer s H E hr => ⟨_, (ss_cons (s_set (i := 2) S_made.nd rfl (.inl (by kernel_rfl)) (by decide) (x_call (ok_normal_of C) hr (takes_of rfl rfl rfl rfl) (ea_cons (ev_tup (ea_cons (ev_var 0 rfl (.inl (by kernel_rfl)) (by decide)) (ea_cons (ev_var 1 rfl (.inl (by kernel_rfl)) (by decide)) (ea_nil (lv := .c)) (.inl rfl) (fun _ => rfl)) (.inl rfl) (fun _ => rfl))) (ea_nil (lv := .c)) (.inl rfl) (fun _ => rfl)) (len_cons len_nil) rfl (by decide) (gl_of (by kernel_rfl))) rfl (.inr (by kernel_rfl)))
  (ss_cons (s_if (EwT.et (ew_or (et_cmp cm_gt (ev_callB (lv := .c) call_len cf_len (gl_of (by kernel_rfl)) C.b_len (by decide +kernel) (ea_cons (ev_ix rfl (fun _ _ => rfl) (ev_var 2 rfl (.inl (by kernel_rfl)) (by decide)) ev_int) (ea_nil (lv := .c)) (.inl rfl) (fun _ => rfl)) (.inr (.inr sc_len))) (ev_globI (gl_of (by kernel_rfl)) C.i_MOST_BITS)) (ew_or1 (et_cmp cm_gt (ev_callB (lv := .c) call_len cf_len (gl_of (by kernel_rfl)) C.b_len (by decide +kernel) (ea_cons (ev_ix rfl (fun _ _ => rfl) (ev_var 2 rfl (.inl (by kernel_rfl)) (by decide)) ev_int) (ea_nil (lv := .c)) (.inl rfl) (fun _ => rfl)) (.inr (.inr sc_len))) (ev_globI (gl_of (by kernel_rfl)) C.i_MOST_BITS))))) (ss_one s_bad) ss_nil)
  (ss_one (s_ret (ev_var 2 rfl (.inl (by kernel_rfl)) (by decide))))))⟩
theorem S_gap_of : FnScope ["one", "other", "start", "turn", "beat"] ["one", "other"] (defScope s_gap_of) := ⟨rfl, rfl, rfl, by decide +kernel, rfl, by decide +kernel, by decide +kernel⟩
def F_gap_of : FS :=
  (sSeq (sIf (fTst (fOp (opCmp fun i j => decide (j < i)) (fCallF m_drift (fCons (fVar 0) (fCons (fVar 1) fNil))) (fC (.int 0)))) (sRet (fC .non)) sNx)
  (sSeq (sAsg (fCallF m_paired (fCons (fVar 0) (fCons (fVar 1) fNil))) (gfT 2 (gfC (gfN 2) (gfC (gfN 3) gfNil))))
  (sRet (fCall bMaxL (fCons (fOfL (fComp [4] (fRng1 (fOp opAdd (fOp opAdd (fVar 2) (fVar 3)) (fC (.int 1)))) (gfN 4) fYes (fOp opSub (fCallF m_ones_of (fCons (fVar 0) (fCons (fVar 4) fNil))) (fCallF m_ones_of (fCons (fVar 1) (fCons (fVar 4) fNil)))))) fNil)))))
def m_gap_of : List D → Res := runF F_gap_of 5 2
theorem ok_gap_of {P : Program} {w : World} {K : PySem.W.Frag} {mg : Str → Option Value} {base : Heap} (C : Facts K mg) : Good P w K mg base "gap_of" ["one", "other"] 3 (spF K 2 m_gap_of) :=
  good_fn (N := ["one", "other", "start", "turn", "beat"]) (k := 2) (M := []) C.f_gap_of S_gap_of rfl (fun _ _ _ _ _ _ us hl => match us, hl with | [_, _], _ => rfl) (by decide) fun f cdv A outer s H E hr => ⟨_, (ss_cons (s_if (et_cmp cm_gt (x_call (ok_drift C) hr (takes_of rfl rfl rfl rfl) (ea_cons (ev_var 0 rfl (.inr (.inl (by kernel_rfl))) (by decide)) (ea_cons (ev_var 1 rfl (.inr (.inl (by kernel_rfl))) (by decide)) (ea_nil (lv := .c)) (.inl rfl) (fun _ => rfl)) (.inl rfl) (fun _ => rfl)) (len_cons (len_cons len_nil)) rfl (by decide) (gl_of (by kernel_rfl))) ev_int) (ss_one (s_ret ev_non)) ss_nil)
  (ss_cons (s_asg (x_call (ok_paired C) hr (takes_of rfl rfl rfl rfl) (ea_cons (ev_var 0 rfl (.inr (.inl (by kernel_rfl))) (by decide)) (ea_cons (ev_var 1 rfl (.inr (.inl (by kernel_rfl))) (by decide)) (ea_nil (lv := .c)) (.inl rfl) (fun _ => rfl)) (.inl rfl) (fun _ => rfl)) (len_cons (len_cons len_nil)) rfl (by decide) (gl_of (by kernel_rfl))) (eg_tup rfl rfl (egs_cons (eg_name 2 S_gap_of.nd rfl (.inl (by kernel_rfl)) (by decide) (.inr (by kernel_rfl))) (egs_cons (eg_name 3 S_gap_of.nd rfl (.inl (by kernel_rfl)) (by decide) (.inr (by kernel_rfl))) egs_nil))))
  (ss_one (s_ret (ev_callB (lv := .c) (cr_max rfl) cf_max (gl_of (by kernel_rfl)) C.b_max (by decide +kernel) (ea_cons (ev_ofL (x_comp rfl (S_gap_of.nd) (own := [("beat", 4)]) (ei_rng1 rfl (gl_of (by kernel_rfl)) C.b_range (x_add (x_add (ev_var 2 rfl (.inl (by kernel_rfl)) (by decide)) (ev_var 3 rfl (.inl (by kernel_rfl)) (by decide))) ev_int)) (blkOk_by (by kernel_rfl)) (by decide) (by decide) (fun _ _ _ _ _ => (eg_name 4 S_gap_of.nd rfl (.inl (by kernel_rfl)) (by decide) (.inr (by kernel_rfl)))) (fun _ _ _ _ _ => ets_nil) (fun _ _ _ _ _ => (x_sub (x_call (ok_ones_of C) hr takes0 (ea_cons (ev_var 0 rfl (.inr (.inl (by kernel_rfl))) (by decide)) (ea_cons (ev_var 4 rfl (.inl (by kernel_rfl)) (by decide)) (ea_nil (lv := .c)) (.inl rfl) (fun _ => rfl)) (.inl rfl) (fun _ => rfl)) (len_cons (len_cons len_nil)) rfl (by decide) (gl_of (by kernel_rfl))) (x_call (ok_ones_of C) hr takes0 (ea_cons (ev_var 1 rfl (.inr (.inl (by kernel_rfl))) (by decide)) (ea_cons (ev_var 4 rfl (.inl (by kernel_rfl)) (by decide)) (ea_nil (lv := .c)) (.inl rfl) (fun _ => rfl)) (.inl rfl) (fun _ => rfl)) (len_cons (len_cons len_nil)) rfl (by decide) (gl_of (by kernel_rfl))))))) (ea_nil (lv := .c)) (.inl rfl) (fun _ => rfl)) (.inr (.inr sc_maxl)))))))⟩
theorem S_fault_of : FnScope ["one", "other", "places", "start", "turn", "beat", "left"] ["one", "other", "places"] (defScope s_fault_of) := ⟨rfl, rfl, rfl, by decide +kernel, rfl, by decide +kernel, by decide +kernel⟩
def F_fault_of : FS :=
  (sSeq (sAsg (fCallF m_paired (fCons (fVar 0) (fCons (fVar 1) fNil))) (gfT 2 (gfC (gfN 3) (gfC (gfN 4) gfNil))))
  (sSeq (sSet 5 (fC (.int 0)))
  (sWhile (fTst (fC (.bl true))) (sSeq (sAug (fun i j => i + j) 5 (fC (.int 1)))
  (sSeq (sSet 6 (fOp opSub (fCallF m_ones_of (fCons (fVar 0) (fCons (fVar 5) fNil))) (fCallF m_ones_of (fCons (fVar 1) (fCons (fVar 5) fNil)))))
  (sSeq (sIf (fTst (fOp (opCmp fun i j => decide (i < j)) (fVar 6) (fC (.int 0)))) (sRet (fTup (fCons (fVar 5) (fCons (fC (.str [119, 97, 110, 116])) fNil)))) sNx)
  (sSeq (sIf (fTst (fOp (opCmp fun i j => decide (j < i)) (fVar 6) (fVar 2))) (sRet (fTup (fCons (fVar 5) (fCons (fC (.str [102, 117, 108, 108])) fNil)))) sNx)
  (sSeq (sIf (fAnd (fTst (fOp (opCmp fun i j => decide (j ≤ i)) (fVar 5) (fOp opAdd (fVar 3) (fVar 4)))) (fTst (fOp opEq (fCallF m_drift (fCons (fVar 0) (fCons (fVar 1) fNil))) (fC (.int 0))))) (sRet (fC .non)) sNx)
  (sIf (fAnd (fTst (fOp (opCmp fun i j => decide (j ≤ i)) (fVar 5) (fOp opAdd (fVar 3) (fVar 4)))) (fAnd (fTst (fOp opIsnt (fCallF m_total_of (fCons (fVar 0) fNil)) (fC .non))) (fTst (fOp opIsnt (fCallF m_total_of (fCons (fVar 1) fNil)) (fC .non))))) (sRet (fC .non)) sNx)))))))))
def m_fault_of : List D → Res := runF F_fault_of 7 3
theorem ok_fault_of {P : Program} {w : World} {K : PySem.W.Frag} {mg : Str → Option Value} {base : Heap} (C : Facts K mg) : Good P w K mg base "fault_of" ["one", "other", "places"] 3 (spF K 3 m_fault_of) :=
  good_fn (N := ["one", "other", "places", "start", "turn", "beat", "left"]) (k := 2) (M := []) C.f_fault_of S_fault_of rfl (fun _ _ _ _ _ _ us hl => match us, hl with | [_, _, _], _ => rfl) (by decide) fun f cdv A outer s H E hr => ⟨_, (ss_cons (s_asg (x_call (ok_paired C) hr (takes_of rfl rfl rfl rfl) (ea_cons (ev_var 0 rfl (.inl (by kernel_rfl)) (by decide)) (ea_cons (ev_var 1 rfl (.inl (by kernel_rfl)) (by decide)) (ea_nil (lv := .c)) (.inl rfl) (fun _ => rfl)) (.inl rfl) (fun _ => rfl)) (len_cons (len_cons len_nil)) rfl (by decide) (gl_of (by kernel_rfl))) (eg_tup rfl rfl (egs_cons (eg_name 3 S_fault_of.nd rfl (.inl (by kernel_rfl)) (by decide) (.inr (by kernel_rfl))) (egs_cons (eg_name 4 S_fault_of.nd rfl (.inl (by kernel_rfl)) (by decide) (.inr (by kernel_rfl))) egs_nil))))
  (ss_cons (s_set (i := 5) S_fault_of.nd rfl (.inl (by kernel_rfl)) (by decide) ev_int rfl (.inr (by kernel_rfl)))
  (ss_one (s_while (passes_of rfl) (et_val ev_bl) (ss_cons (s_aug ip_add S_fault_of.nd rfl (.inl (by kernel_rfl)) (by decide) ev_int (.inr (by kernel_rfl)))
  (ss_cons (s_set (i := 6) S_fault_of.nd rfl (.inl (by kernel_rfl)) (by decide) (x_sub (x_call (ok_ones_of C) hr (takes_of rfl rfl rfl rfl) (ea_cons (ev_var 0 rfl (.inl (by kernel_rfl)) (by decide)) (ea_cons (ev_var 5 rfl (.inl (by kernel_rfl)) (by decide)) (ea_nil (lv := .c)) (.inl rfl) (fun _ => rfl)) (.inl rfl) (fun _ => rfl)) (len_cons (len_cons len_nil)) rfl (by decide) (gl_of (by kernel_rfl))) (x_call (ok_ones_of C) hr (takes_of rfl rfl rfl rfl) (ea_cons (ev_var 1 rfl (.inl (by kernel_rfl)) (by decide)) (ea_cons (ev_var 5 rfl (.inl (by kernel_rfl)) (by decide)) (ea_nil (lv := .c)) (.inl rfl) (fun _ => rfl)) (.inl rfl) (fun _ => rfl)) (len_cons (len_cons len_nil)) rfl (by decide) (gl_of (by kernel_rfl)))) rfl (.inr (by kernel_rfl)))
  (ss_cons (s_if (et_cmp cm_lt (ev_var 6 rfl (.inl (by kernel_rfl)) (by decide)) ev_int) (ss_one (s_ret (ev_tup (ea_cons (ev_var 5 rfl (.inl (by kernel_rfl)) (by decide)) (ea_cons (ev_str [119, 97, 110, 116]) (ea_nil (lv := .c)) (.inl rfl) (fun _ => rfl)) (.inl rfl) (fun _ => rfl))))) ss_nil)
  (ss_cons (s_if (et_cmp cm_gt (ev_var 6 rfl (.inl (by kernel_rfl)) (by decide)) (ev_var 2 rfl (.inl (by kernel_rfl)) (by decide))) (ss_one (s_ret (ev_tup (ea_cons (ev_var 5 rfl (.inl (by kernel_rfl)) (by decide)) (ea_cons (ev_str [102, 117, 108, 108]) (ea_nil (lv := .c)) (.inl rfl) (fun _ => rfl)) (.inl rfl) (fun _ => rfl))))) ss_nil)
  (ss_cons (s_if (EwT.et (ew_and (et_cmp cm_ge (ev_var 5 rfl (.inl (by kernel_rfl)) (by decide)) (x_add (ev_var 3 rfl (.inl (by kernel_rfl)) (by decide)) (ev_var 4 rfl (.inl (by kernel_rfl)) (by decide)))) (ew_and1 (et_cmp (cm_eq hr) (x_call (ok_drift C) hr (takes_of rfl rfl rfl rfl) (ea_cons (ev_var 0 rfl (.inl (by kernel_rfl)) (by decide)) (ea_cons (ev_var 1 rfl (.inl (by kernel_rfl)) (by decide)) (ea_nil (lv := .c)) (.inl rfl) (fun _ => rfl)) (.inl rfl) (fun _ => rfl)) (len_cons (len_cons len_nil)) rfl (by decide) (gl_of (by kernel_rfl))) ev_int)))) (ss_one (s_ret ev_non)) ss_nil)
  (ss_one (s_if (EwT.et (ew_and (et_cmp cm_ge (ev_var 5 rfl (.inl (by kernel_rfl)) (by decide)) (x_add (ev_var 3 rfl (.inl (by kernel_rfl)) (by decide)) (ev_var 4 rfl (.inl (by kernel_rfl)) (by decide)))) (ew_and (et_cmp cm_isnt (x_call (ok_total_of C) hr (takes_of rfl rfl rfl rfl) (ea_cons (ev_var 0 rfl (.inl (by kernel_rfl)) (by decide)) (ea_nil (lv := .c)) (.inl rfl) (fun _ => rfl)) (len_cons len_nil) rfl (by decide) (gl_of (by kernel_rfl))) ev_non) (ew_and1 (et_cmp cm_isnt (x_call (ok_total_of C) hr (takes_of rfl rfl rfl rfl) (ea_cons (ev_var 1 rfl (.inl (by kernel_rfl)) (by decide)) (ea_nil (lv := .c)) (.inl rfl) (fun _ => rfl)) (len_cons len_nil) rfl (by decide) (gl_of (by kernel_rfl))) ev_non))))) (ss_one (s_ret ev_non)) ss_nil)))))))))))⟩
theorem S_from_bits : FnScope ["some", "start", "turn", "text", "bit"] ["some", "start", "turn"] (defScope s_from_bits) := ⟨rfl, rfl, rfl, by decide +kernel, rfl, by decide +kernel, by decide +kernel⟩
def F_from_bits : FS :=
  (sSeq (sSet 3 (fM1 bJoin (fC (.str [])) (fOfL (fComp [4] (fIt (fVar 0)) (gfN 4) fYes (fIf (fTst (fVar 4)) (fC (.str [49])) (fC (.str [48])))))))
  (sRet (fCallF m_made (fCons (fSl (fVar 3) fNoPart (fPart (fVar 1))) (fCons (fSl (fVar 3) (fPart (fVar 1)) (fPart (fOp opAdd (fVar 1) (fVar 2)))) fNil)))))
def m_from_bits : List D → Res := runF F_from_bits 5 3
theorem ok_from_bits {P : Program} {w : World} {K : PySem.W.Frag} {mg : Str → Option Value} {base : Heap} (C : Facts K mg) : Good P w K mg base "from_bits" ["some", "start", "turn"] 4 (spF K 3 m_from_bits) :=
  good_fn (N := ["some", "start", "turn", "text", "bit"]) (k := 3) (M := []) C.f_from_bits S_from_bits rfl (fun _ _ _ _ _ _ us hl => match us, hl with | [_, _, _], _ => rfl) (by decide) fun f cdv A outer s H E hr => ⟨_, (ss_cons (s_set (i := 3) S_from_bits.nd rfl (.inl (by kernel_rfl)) (by decide) (ev_join rfl (ev_str []) (ev_ofL (x_comp rfl (S_from_bits.nd) (own := [("bit", 4)]) (ei_seq rfl (ev_var 0 rfl (.inl (by kernel_rfl)) (by decide))) (blkOk_by (by kernel_rfl)) (by decide) (by decide) (fun _ _ _ _ _ => (eg_name 4 S_from_bits.nd rfl (.inl (by kernel_rfl)) (by decide) (.inr (by kernel_rfl)))) (fun _ _ _ _ _ => ets_nil) (fun _ _ _ _ _ => (ev_if (et_val (ev_var 4 rfl (.inl (by kernel_rfl)) (by decide))) (ev_str [49]) (ev_str [48])))))) rfl (.inr (by kernel_rfl)))
  (ss_one (s_ret (x_call (ok_made C) hr (takes_of rfl rfl rfl rfl) (ea_cons (ev_sl rfl (ev_var 3 rfl (.inl (by kernel_rfl)) (by decide)) eo_none (eo_some (ev_var 1 rfl (.inl (by kernel_rfl)) (by decide)))) (ea_cons (ev_sl rfl (ev_var 3 rfl (.inl (by kernel_rfl)) (by decide)) (eo_some (ev_var 1 rfl (.inl (by kernel_rfl)) (by decide))) (eo_some (x_add (ev_var 1 rfl (.inl (by kernel_rfl)) (by decide)) (ev_var 2 rfl (.inl (by kernel_rfl)) (by decide))))) (ea_nil (lv := .c)) (.inl rfl) (fun _ => rfl)) (.inl rfl) (fun _ => rfl)) (len_cons (len_cons len_nil)) rfl (by decide) (gl_of (by kernel_rfl))))))⟩
theorem S_need_words : FnScope ["one", "other"] ["one", "other"] (defScope s_need_words) := ⟨rfl, rfl, rfl, by decide +kernel, rfl, by decide +kernel, by decide +kernel⟩
def F_need_words : FS :=
  (sSeq (sExpr (fCallF m_need_word (fCons (fVar 0) fNil)))
  (sExpr (fCallF m_need_word (fCons (fVar 1) fNil))))
def m_need_words : List D → Res := runF F_need_words 2 2
theorem ok_need_words {P : Program} {w : World} {K : PySem.W.Frag} {mg : Str → Option Value} {base : Heap} (C : Facts K mg) : Good P w K mg base "need_words" ["one", "other"] 4 (spF K 2 m_need_words) :=
  good_fn (N := ["one", "other"]) (k := 3) (M := []) C.f_need_words S_need_words rfl (fun _ _ _ _ _ _ us hl => match us, hl with | [_, _], _ => rfl) (by decide) fun f cdv A outer s H E hr => ⟨_, (ss_cons (s_expr (x_call (ok_need_word C) hr (takes_of rfl rfl rfl rfl) (ea_cons (ev_var 0 rfl (.inl (by kernel_rfl)) (by decide)) (ea_nil (lv := .c)) (.inl rfl) (fun _ => rfl)) (len_cons len_nil) rfl (by decide) (gl_of (by kernel_rfl))))
  (ss_one (s_expr (x_call (ok_need_word C) hr (takes_of rfl rfl rfl rfl) (ea_cons (ev_var 1 rfl (.inl (by kernel_rfl)) (by decide)) (ea_nil (lv := .c)) (.inl rfl) (fun _ => rfl)) (len_cons len_nil) rfl (by decide) (gl_of (by kernel_rfl))))))⟩
theorem S_is_ahead : FnScope ["one", "other"] ["one", "other"] (defScope s_is_ahead) := ⟨rfl, rfl, rfl, by decide +kernel, rfl, by decide +kernel, by decide +kernel⟩
def F_is_ahead : FS :=
  (sRet (fOp opEq (fCallF m_gap_of (fCons (fVar 1) (fCons (fVar 0) fNil))) (fC (.int 0))))
def m_is_ahead : List D → Res := runF F_is_ahead 2 2
theorem ok_is_ahead {P : Program} {w : World} {K : PySem.W.Frag} {mg : Str → Option Value} {base : Heap} (C : Facts K mg) : Good P w K mg base "is_ahead" ["one", "other"] 4 (spF K 2 m_is_ahead) :=
  good_fn (N := ["one", "other"]) (k := 3) (M := []) C.f_is_ahead S_is_ahead rfl (fun _ _ _ _ _ _ us hl => match us, hl with | [_, _], _ => rfl) (by decide) fun f cdv A outer s H E hr => ⟨_, (ss_one (s_ret (x_cmp (cm_eq hr) (x_call (ok_gap_of C) hr (takes_of rfl rfl rfl rfl) (ea_cons (ev_var 1 rfl (.inl (by kernel_rfl)) (by decide)) (ea_cons (ev_var 0 rfl (.inl (by kernel_rfl)) (by decide)) (ea_nil (lv := .c)) (.inl rfl) (fun _ => rfl)) (.inl rfl) (fun _ => rfl)) (len_cons (len_cons len_nil)) rfl (by decide) (gl_of (by kernel_rfl))) ev_int)))⟩
theorem S_law_alike : FnScope ["_law_found", "_law_due", "_law_k"] ["_law_found", "_law_due"] (defScope s_law_alike) := ⟨rfl, rfl, rfl, by decide +kernel, rfl, by decide +kernel, by decide +kernel⟩
def F_law_alike (m_n : List D → Res) : FS :=
  (sSeq (sIf (fTst (fIsi2 "tuple" "list" (fVar 1))) (sSeq (sIf (fOr (fNot (fTst (fIsi2 "tuple" "list" (fVar 0)))) (fTst (fOp opNe (fIsi "list" (fVar 0)) (fIsi "list" (fVar 1))))) (sRet (fC (.bl false))) sNx)
  (sSeq (sIf (fTst (fOp opNe (fCall bLen (fCons (fVar 0) fNil)) (fCall bLen (fCons (fVar 1) fNil)))) (sRet (fC (.bl false))) sNx)
  (sRet (fOp opEq (fOfL (fComp [2] (fRng1 (fCall bLen (fCons (fVar 1) fNil))) (gfN 2) (fNot (fTst (fCallF m_n (fCons (fOp opIx (fVar 0) (fVar 2)) (fCons (fOp opIx (fVar 1) (fVar 2)) fNil))))) (fVar 2))) (fOfL (fLstL fNil)))))) sNx)
  (sSeq (sIf (fOr (fTst (fOp opIs (fVar 1) (fC .non))) (fTst (fIsi "str" (fVar 1)))) (sRet (fAndV (fOp opEq (fVar 0) (fVar 1)) (fOp opEq (fIsi "str" (fVar 0)) (fIsi "str" (fVar 1))))) sNx)
  (sRet (fAndV (fIsi "int" (fVar 0)) (fAndV (fOp opEq (fIsi "bool" (fVar 0)) (fIsi "bool" (fVar 1))) (fOp opEq (fVar 0) (fVar 1)))))))
def m_law_alike : Nat → List D → Res
  | 0 => fun _ => .bad
  | n + 1 => runF (F_law_alike (m_law_alike n)) 3 2
theorem ok_law_alike {P : Program} {w : World} {K : PySem.W.Frag} {mg : Str → Option Value} {base : Heap} (C : Facts K mg) : ∀ n, Good P w K mg base "_law_alike" ["_law_found", "_law_due"] (n + 1) (spF K 2 (m_law_alike n))
  | 0 => (good_bad C.f_law_alike S_law_alike rfl (fun _ _ _ _ _ _ us hl => match us, hl with | [_, _], _ => rfl)).up (by omega)
  | n + 1 => by
    have G := ok_law_alike (P := P) (w := w) (base := base) C n
    exact good_fn (N := ["_law_found", "_law_due", "_law_k"]) (k := n + 1) (M := []) C.f_law_alike S_law_alike rfl (fun _ _ _ _ _ _ us hl => match us, hl with | [_, _], _ => rfl) (by decide) fun f cdv A outer s H E hr => ⟨_, (ss_cons (s_if (et_val (ev_isi2 "tuple" "list" rfl (by decide) (by decide) rfl (gl_of (by kernel_rfl)) C.b_isinstance (gl_of (by kernel_rfl)) C.b_tuple (by decide +kernel) (gl_of (by kernel_rfl)) C.b_list (by decide +kernel) (ev_var 1 rfl (.inr (.inl (by kernel_rfl))) (by decide)))) (ss_cons (s_if (EwT.et (ew_or (et_not (et_val (ev_isi2 "tuple" "list" rfl (by decide) (by decide) rfl (gl_of (by kernel_rfl)) C.b_isinstance (gl_of (by kernel_rfl)) C.b_tuple (by decide +kernel) (gl_of (by kernel_rfl)) C.b_list (by decide +kernel) (ev_var 0 rfl (.inr (.inl (by kernel_rfl))) (by decide))))) (ew_or1 (et_cmp (cm_ne hr) (ev_isi "list" rfl (by decide) rfl (gl_of (by kernel_rfl)) C.b_isinstance (gl_of (by kernel_rfl)) C.b_list (by decide +kernel) (ev_var 0 rfl (.inr (.inl (by kernel_rfl))) (by decide))) (ev_isi "list" rfl (by decide) rfl (gl_of (by kernel_rfl)) C.b_isinstance (gl_of (by kernel_rfl)) C.b_list (by decide +kernel) (ev_var 1 rfl (.inr (.inl (by kernel_rfl))) (by decide))))))) (ss_one (s_ret ev_bl)) ss_nil)
  (ss_cons (s_if (et_cmp (cm_ne hr) (ev_callB (lv := .c) call_len cf_len (gl_of (by kernel_rfl)) C.b_len (by decide +kernel) (ea_cons (ev_var 0 rfl (.inr (.inl (by kernel_rfl))) (by decide)) (ea_nil (lv := .c)) (.inl rfl) (fun _ => rfl)) (.inr (.inr sc_len))) (ev_callB (lv := .c) call_len cf_len (gl_of (by kernel_rfl)) C.b_len (by decide +kernel) (ea_cons (ev_var 1 rfl (.inr (.inl (by kernel_rfl))) (by decide)) (ea_nil (lv := .c)) (.inl rfl) (fun _ => rfl)) (.inr (.inr sc_len)))) (ss_one (s_ret ev_bl)) ss_nil)
  (ss_one (s_ret (x_cmp (cm_eq hr) (ev_ofL (x_comp rfl (S_law_alike.nd) (own := [("_law_k", 2)]) (ei_rng1 rfl (gl_of (by kernel_rfl)) C.b_range (ev_callB (lv := .c) call_len cf_len (gl_of (by kernel_rfl)) C.b_len (by decide +kernel) (ea_cons (ev_var 1 rfl (.inr (.inl (by kernel_rfl))) (by decide)) (ea_nil (lv := .c)) (.inl rfl) (fun _ => rfl)) (.inr (.inr sc_len)))) (blkOk_by (by kernel_rfl)) (by decide) (by decide) (fun _ _ _ _ _ => (eg_name 2 S_law_alike.nd rfl (.inl (by kernel_rfl)) (by decide) (.inr (by kernel_rfl)))) (fun _ _ _ _ _ => (ets_one (et_not (et_val (x_call G hr takes0 (ea_cons (ev_ix rfl (fun _ _ => rfl) (ev_var 0 rfl (.inr (.inl (by kernel_rfl))) (by decide)) (ev_var 2 rfl (.inl (by kernel_rfl)) (by decide))) (ea_cons (ev_ix rfl (fun _ _ => rfl) (ev_var 1 rfl (.inr (.inl (by kernel_rfl))) (by decide)) (ev_var 2 rfl (.inl (by kernel_rfl)) (by decide))) (ea_nil (lv := .c)) (.inl rfl) (fun _ => rfl)) (.inl rfl) (fun _ => rfl)) (len_cons (len_cons len_nil)) rfl (by omega) (gl_of (by kernel_rfl))))))) (fun _ _ _ _ _ => (ev_var 2 rfl (.inl (by kernel_rfl)) (by decide))))) (ev_ofL (el_lst (ea_nil (lv := .c))))))))) ss_nil)
  (ss_cons (s_if (EwT.et (ew_or (et_cmp cm_is (ev_var 1 rfl (.inr (.inl (by kernel_rfl))) (by decide)) ev_non) (ew_or1 (et_val (ev_isi "str" rfl (by decide) rfl (gl_of (by kernel_rfl)) C.b_isinstance (gl_of (by kernel_rfl)) C.b_str (by decide +kernel) (ev_var 1 rfl (.inr (.inl (by kernel_rfl))) (by decide))))))) (ss_one (s_ret (ev_and (x_cmp (cm_eq hr) (ev_var 0 rfl (.inr (.inl (by kernel_rfl))) (by decide)) (ev_var 1 rfl (.inr (.inl (by kernel_rfl))) (by decide))) (ev_one (x_cmp (cm_eq hr) (ev_isi "str" rfl (by decide) rfl (gl_of (by kernel_rfl)) C.b_isinstance (gl_of (by kernel_rfl)) C.b_str (by decide +kernel) (ev_var 0 rfl (.inr (.inl (by kernel_rfl))) (by decide))) (ev_isi "str" rfl (by decide) rfl (gl_of (by kernel_rfl)) C.b_isinstance (gl_of (by kernel_rfl)) C.b_str (by decide +kernel) (ev_var 1 rfl (.inr (.inl (by kernel_rfl))) (by decide)))))))) ss_nil)
  (ss_one (s_ret (ev_and (ev_isi "int" rfl (by decide) rfl (gl_of (by kernel_rfl)) C.b_isinstance (gl_of (by kernel_rfl)) C.b_int (by decide +kernel) (ev_var 0 rfl (.inr (.inl (by kernel_rfl))) (by decide))) (ev_and (x_cmp (cm_eq hr) (ev_isi "bool" rfl (by decide) rfl (gl_of (by kernel_rfl)) C.b_isinstance (gl_of (by kernel_rfl)) C.b_bool (by decide +kernel) (ev_var 0 rfl (.inr (.inl (by kernel_rfl))) (by decide))) (ev_isi "bool" rfl (by decide) rfl (gl_of (by kernel_rfl)) C.b_isinstance (gl_of (by kernel_rfl)) C.b_bool (by decide +kernel) (ev_var 1 rfl (.inr (.inl (by kernel_rfl))) (by decide)))) (ev_one (x_cmp (cm_eq hr) (ev_var 0 rfl (.inr (.inl (by kernel_rfl))) (by decide)) (ev_var 1 rfl (.inr (.inl (by kernel_rfl))) (by decide))))))))))⟩
theorem S_chosen : FnScope ["one", "other", "most", "step", "start", "turn", "lasting", "other_one", "beat", "counts"] ["one", "other", "most"] (defScope s_chosen) := ⟨rfl, rfl, rfl, by decide +kernel, rfl, by decide +kernel, by decide +kernel⟩
def F_chosen : FS :=
  (sSeq (sSet 3 (fCallF m_drift (fCons (fVar 0) (fCons (fVar 1) fNil))))
  (sSeq (sAsg (fCallF m_paired (fCons (fVar 0) (fCons (fVar 1) fNil))) (gfT 2 (gfC (gfN 4) (gfC (gfN 5) gfNil))))
  (sSeq (sIf (fTst (fOp opNe (fVar 3) (fC (.int 0)))) (sSeq (sAsg (fIf (fTst (fOp opEq (fOp (opCmp fun i j => decide (j < i)) (fVar 3) (fC (.int 0))) (fVar 2))) (fTup (fCons (fVar 0) (fCons (fVar 1) fNil))) (fTup (fCons (fVar 1) (fCons (fVar 0) fNil)))) (gfT 2 (gfC (gfN 6) (gfC (gfN 7) gfNil))))
  (sSeq (sFor (fRng2 (fC (.int 400)) (fOp opAdd (fOp opAdd (fC (.int 400)) (fVar 5)) (fC (.int 1)))) (gfN 8) (sIf (fTst (fOp opNe (fCallF m_told_count (fCons (fVar 6) (fCons (fVar 7) (fCons (fVar 8) (fCons (fVar 2) fNil))))) (fCallF m_ones_of (fCons (fVar 6) (fCons (fVar 8) fNil))))) sBad sNx))
  (sPar 4 5 (fC (.int 400)) (fCall bLen (fCons (fOp opIx (fVar 6) (fC (.int 1))) fNil))))) sNx)
  (sSeq (sSet 9 (fOfL (fComp [8] (fRng1 (fOp opAdd (fOp opAdd (fVar 4) (fVar 5)) (fC (.int 1)))) (gfN 8) fYes (fCallF m_told_count (fCons (fVar 0) (fCons (fVar 1) (fCons (fVar 8) (fCons (fVar 2) fNil))))))))
  (sRet (fCallF m_from_bits (fCons (fOfL (fComp [8] (fRng2 (fC (.int 1)) (fCall bLen (fCons (fVar 9) fNil))) (gfN 8) fYes (fOp (opCmp fun i j => decide (j < i)) (fOp opIx (fVar 9) (fVar 8)) (fOp opIx (fVar 9) (fOp opSub (fVar 8) (fC (.int 1))))))) (fCons (fVar 4) (fCons (fVar 5) fNil)))))))))
def m_chosen : List D → Res := runF F_chosen 10 3
theorem ok_chosen {P : Program} {w : World} {K : PySem.W.Frag} {mg : Str → Option Value} {base : Heap} (C : Facts K mg) : Good P w K mg base "chosen" ["one", "other", "most"] 5 (spF K 3 m_chosen) :=
  good_fn (N := ["one", "other", "most", "step", "start", "turn", "lasting", "other_one", "beat", "counts"]) (k := 4) (M := []) C.f_chosen S_chosen rfl (fun _ _ _ _ _ _ us hl => match us, hl with | [_, _, _], _ => rfl) (by decide) fun f cdv A outer s H E hr => ⟨_, (ss_cons (s_set (i := 3) S_chosen.nd rfl (.inl (by kernel_rfl)) (by decide) (x_call (ok_drift C) hr (takes_of rfl rfl rfl rfl) (ea_cons (ev_var 0 rfl (.inr (.inl (by kernel_rfl))) (by decide)) (ea_cons (ev_var 1 rfl (.inr (.inl (by kernel_rfl))) (by decide)) (ea_nil (lv := .c)) (.inl rfl) (fun _ => rfl)) (.inl rfl) (fun _ => rfl)) (len_cons (len_cons len_nil)) rfl (by decide) (gl_of (by kernel_rfl))) rfl (.inr (by kernel_rfl)))
  (ss_cons (s_asg (x_call (ok_paired C) hr (takes_of rfl rfl rfl rfl) (ea_cons (ev_var 0 rfl (.inr (.inl (by kernel_rfl))) (by decide)) (ea_cons (ev_var 1 rfl (.inr (.inl (by kernel_rfl))) (by decide)) (ea_nil (lv := .c)) (.inl rfl) (fun _ => rfl)) (.inl rfl) (fun _ => rfl)) (len_cons (len_cons len_nil)) rfl (by decide) (gl_of (by kernel_rfl))) (eg_tup rfl rfl (egs_cons (eg_name 4 S_chosen.nd rfl (.inl (by kernel_rfl)) (by decide) (.inr (by kernel_rfl))) (egs_cons (eg_name 5 S_chosen.nd rfl (.inl (by kernel_rfl)) (by decide) (.inr (by kernel_rfl))) egs_nil))))
  (ss_cons (s_if (et_cmp (cm_ne hr) (ev_var 3 rfl (.inl (by kernel_rfl)) (by decide)) ev_int) (ss_cons (s_asg (ev_if (et_cmp (cm_eq hr) (x_cmp cm_gt (ev_var 3 rfl (.inl (by kernel_rfl)) (by decide)) ev_int) (ev_var 2 rfl (.inr (.inl (by kernel_rfl))) (by decide))) (ev_tup (ea_cons (ev_var 0 rfl (.inr (.inl (by kernel_rfl))) (by decide)) (ea_cons (ev_var 1 rfl (.inr (.inl (by kernel_rfl))) (by decide)) (ea_nil (lv := .c)) (.inl rfl) (fun _ => rfl)) (.inl rfl) (fun _ => rfl))) (ev_tup (ea_cons (ev_var 1 rfl (.inr (.inl (by kernel_rfl))) (by decide)) (ea_cons (ev_var 0 rfl (.inr (.inl (by kernel_rfl))) (by decide)) (ea_nil (lv := .c)) (.inl rfl) (fun _ => rfl)) (.inl rfl) (fun _ => rfl)))) (eg_tup rfl rfl (egs_cons (eg_name 6 S_chosen.nd rfl (.inl (by kernel_rfl)) (by decide) (.inr (by kernel_rfl))) (egs_cons (eg_name 7 S_chosen.nd rfl (.inl (by kernel_rfl)) (by decide) (.inr (by kernel_rfl))) egs_nil))))
  (ss_cons (s_for (passes_of rfl) rfl (ei_rng2 rfl (gl_of (by kernel_rfl)) C.b_range (ev_globI (gl_of (by kernel_rfl)) C.i_MOST_BITS) (x_add (x_add (ev_globI (gl_of (by kernel_rfl)) C.i_MOST_BITS) (ev_var 5 rfl (.inl (by kernel_rfl)) (by decide))) ev_int)) (eg_name 8 S_chosen.nd rfl (.inl (by kernel_rfl)) (by decide) (.inr (by kernel_rfl))) (ss_one (s_if (et_cmp (cm_ne hr) (x_call (ok_told_count C) hr (takes_of rfl rfl rfl rfl) (ea_cons (ev_var 6 rfl (.inl (by kernel_rfl)) (by decide)) (ea_cons (ev_var 7 rfl (.inl (by kernel_rfl)) (by decide)) (ea_cons (ev_var 8 rfl (.inl (by kernel_rfl)) (by decide)) (ea_cons (ev_var 2 rfl (.inr (.inl (by kernel_rfl))) (by decide)) (ea_nil (lv := .c)) (.inl rfl) (fun _ => rfl)) (.inl rfl) (fun _ => rfl)) (.inl rfl) (fun _ => rfl)) (.inl rfl) (fun _ => rfl)) (len_cons (len_cons (len_cons (len_cons len_nil)))) rfl (by decide) (gl_of (by kernel_rfl))) (x_call (ok_ones_of C) hr (takes_of rfl rfl rfl rfl) (ea_cons (ev_var 6 rfl (.inl (by kernel_rfl)) (by decide)) (ea_cons (ev_var 8 rfl (.inl (by kernel_rfl)) (by decide)) (ea_nil (lv := .c)) (.inl rfl) (fun _ => rfl)) (.inl rfl) (fun _ => rfl)) (len_cons (len_cons len_nil)) rfl (by decide) (gl_of (by kernel_rfl)))) (ss_one s_bad) ss_nil)))
  (ss_one (s_par (i := 4) (j := 5) rfl S_chosen.nd rfl rfl (by decide) (by kernel_rfl) (by kernel_rfl) (by decide) (by decide) (ev_globI (gl_of (by kernel_rfl)) C.i_MOST_BITS) (ev_callB (lv := .c) call_len cf_len (gl_of (by kernel_rfl)) C.b_len (by decide +kernel) (ea_cons (ev_ix rfl (fun _ _ => rfl) (ev_var 6 rfl (.inl (by kernel_rfl)) (by decide)) ev_int) (ea_nil (lv := .c)) (.inl rfl) (fun _ => rfl)) (.inr (.inr sc_len))) rfl)))) ss_nil)
  (ss_cons (s_set (i := 9) S_chosen.nd rfl (.inr (by kernel_rfl)) (by decide) (ev_ofL (x_comp rfl (S_chosen.nd) (own := [("beat", 8)]) (ei_rng1 rfl (gl_of (by kernel_rfl)) C.b_range (x_add (x_add (ev_var 4 rfl (.inl (by kernel_rfl)) (by decide)) (ev_var 5 rfl (.inl (by kernel_rfl)) (by decide))) ev_int)) (blkOk_by (by kernel_rfl)) (by decide) (by decide) (fun _ _ _ _ _ => (eg_name 8 S_chosen.nd rfl (.inl (by kernel_rfl)) (by decide) (.inr (by kernel_rfl)))) (fun _ _ _ _ _ => ets_nil) (fun _ _ _ _ _ => (x_call (ok_told_count C) hr takes0 (ea_cons (ev_var 0 rfl (.inr (.inl (by kernel_rfl))) (by decide)) (ea_cons (ev_var 1 rfl (.inr (.inl (by kernel_rfl))) (by decide)) (ea_cons (ev_var 8 rfl (.inl (by kernel_rfl)) (by decide)) (ea_cons (ev_var 2 rfl (.inr (.inl (by kernel_rfl))) (by decide)) (ea_nil (lv := .c)) (.inl rfl) (fun _ => rfl)) (.inl rfl) (fun _ => rfl)) (.inl rfl) (fun _ => rfl)) (.inl rfl) (fun _ => rfl)) (len_cons (len_cons (len_cons (len_cons len_nil)))) rfl (by decide) (gl_of (by kernel_rfl)))))) rfl (.inl (by kernel_rfl)))
  (ss_one (s_ret (x_call (ok_from_bits C) hr (takes_of rfl rfl rfl rfl) (ea_cons (ev_ofL (x_comp rfl (S_chosen.nd) (own := [("beat", 8)]) (ei_rng2 rfl (gl_of (by kernel_rfl)) C.b_range ev_int (ev_callB (lv := .c) call_len cf_len (gl_of (by kernel_rfl)) C.b_len (by decide +kernel) (ea_cons (ev_var 9 rfl (.inr (.inl (by kernel_rfl))) (by decide)) (ea_nil (lv := .c)) (.inl rfl) (fun _ => rfl)) (.inr (.inr sc_len)))) (blkOk_by (by kernel_rfl)) (by decide) (by decide) (fun _ _ _ _ _ => (eg_name 8 S_chosen.nd rfl (.inl (by kernel_rfl)) (by decide) (.inr (by kernel_rfl)))) (fun _ _ _ _ _ => ets_nil) (fun _ _ _ _ _ => (x_cmp cm_gt (ev_ix rfl (fun _ _ => rfl) (ev_var 9 rfl (.inr (.inl (by kernel_rfl))) (by decide)) (ev_var 8 rfl (.inl (by kernel_rfl)) (by decide))) (ev_ix rfl (fun _ _ => rfl) (ev_var 9 rfl (.inr (.inl (by kernel_rfl))) (by decide)) (x_sub (ev_var 8 rfl (.inl (by kernel_rfl)) (by decide)) ev_int)))))) (ea_cons (ev_var 4 rfl (.inl (by kernel_rfl)) (by decide)) (ea_cons (ev_var 5 rfl (.inl (by kernel_rfl)) (by decide)) (ea_nil (lv := .c)) (.inl rfl) (fun _ => rfl)) (.inl rfl) (fun _ => rfl)) (.inl rfl) (fun _ => rfl)) (len_cons (len_cons (len_cons len_nil))) rfl (by decide) (gl_of (by kernel_rfl)))))))))⟩
theorem S_gap : FnScope ["one", "other"] ["one", "other"] (defScope s_gap) := ⟨rfl, rfl, rfl, by decide +kernel, rfl, by decide +kernel, by decide +kernel⟩
def F_gap : FS :=
  (sSeq (sExpr (fCallF m_need_words (fCons (fVar 0) (fCons (fVar 1) fNil))))
  (sRet (fCallF m_gap_of (fCons (fVar 0) (fCons (fVar 1) fNil)))))
def m_gap : List D → Res := runF F_gap 2 2
theorem ok_gap {P : Program} {w : World} {K : PySem.W.Frag} {mg : Str → Option Value} {base : Heap} (C : Facts K mg) : Good P w K mg base "gap" ["one", "other"] 5 (spF K 2 m_gap) :=
  good_fn (N := ["one", "other"]) (k := 4) (M := []) C.f_gap S_gap rfl (fun _ _ _ _ _ _ us hl => match us, hl with | [_, _], _ => rfl) (by decide) fun f cdv A outer s H E hr => ⟨_, (ss_cons (s_expr (x_call (ok_need_words C) hr (takes_of rfl rfl rfl rfl) (ea_cons (ev_var 0 rfl (.inl (by kernel_rfl)) (by decide)) (ea_cons (ev_var 1 rfl (.inl (by kernel_rfl)) (by decide)) (ea_nil (lv := .c)) (.inl rfl) (fun _ => rfl)) (.inl rfl) (fun _ => rfl)) (len_cons (len_cons len_nil)) rfl (by decide) (gl_of (by kernel_rfl))))
  (ss_one (s_ret (x_call (ok_gap_of C) hr (takes_of rfl rfl rfl rfl) (ea_cons (ev_var 0 rfl (.inl (by kernel_rfl)) (by decide)) (ea_cons (ev_var 1 rfl (.inl (by kernel_rfl)) (by decide)) (ea_nil (lv := .c)) (.inl rfl) (fun _ => rfl)) (.inl rfl) (fun _ => rfl)) (len_cons (len_cons len_nil)) rfl (by decide) (gl_of (by kernel_rfl))))))⟩
theorem S_is_earlier : FnScope ["one", "other"] ["one", "other"] (defScope s_is_earlier) := ⟨rfl, rfl, rfl, by decide +kernel, rfl, by decide +kernel, by decide +kernel⟩
def F_is_earlier : FS :=
  (sSeq (sExpr (fCallF m_need_words (fCons (fVar 0) (fCons (fVar 1) fNil))))
  (sRet (fCallF m_is_ahead (fCons (fVar 0) (fCons (fVar 1) fNil)))))
def m_is_earlier : List D → Res := runF F_is_earlier 2 2
theorem ok_is_earlier {P : Program} {w : World} {K : PySem.W.Frag} {mg : Str → Option Value} {base : Heap} (C : Facts K mg) : Good P w K mg base "is_earlier" ["one", "other"] 5 (spF K 2 m_is_earlier) :=
  good_fn (N := ["one", "other"]) (k := 4) (M := []) C.f_is_earlier S_is_earlier rfl (fun _ _ _ _ _ _ us hl => match us, hl with | [_, _], _ => rfl) (by decide) fun f cdv A outer s H E hr => ⟨_, (ss_cons (s_expr (x_call (ok_need_words C) hr (takes_of rfl rfl rfl rfl) (ea_cons (ev_var 0 rfl (.inl (by kernel_rfl)) (by decide)) (ea_cons (ev_var 1 rfl (.inl (by kernel_rfl)) (by decide)) (ea_nil (lv := .c)) (.inl rfl) (fun _ => rfl)) (.inl rfl) (fun _ => rfl)) (len_cons (len_cons len_nil)) rfl (by decide) (gl_of (by kernel_rfl))))
  (ss_one (s_ret (x_call (ok_is_ahead C) hr (takes_of rfl rfl rfl rfl) (ea_cons (ev_var 0 rfl (.inl (by kernel_rfl)) (by decide)) (ea_cons (ev_var 1 rfl (.inl (by kernel_rfl)) (by decide)) (ea_nil (lv := .c)) (.inl rfl) (fun _ => rfl)) (.inl rfl) (fun _ => rfl)) (len_cons (len_cons len_nil)) rfl (by decide) (gl_of (by kernel_rfl))))))⟩
theorem S_size : FnScope ["one", "other"] ["one", "other"] (defScope s_size) := ⟨rfl, rfl, rfl, by decide +kernel, rfl, by decide +kernel, by decide +kernel⟩
def F_size : FS :=
  (sSeq (sExpr (fCallF m_need_words (fCons (fVar 0) (fCons (fVar 1) fNil))))
  (sRet (fIf (fTst (fCallF m_is_ahead (fCons (fVar 0) (fCons (fVar 1) fNil)))) (fCallF m_gap_of (fCons (fVar 0) (fCons (fVar 1) fNil))) (fC .non))))
def m_size : List D → Res := runF F_size 2 2
theorem ok_size {P : Program} {w : World} {K : PySem.W.Frag} {mg : Str → Option Value} {base : Heap} (C : Facts K mg) : Good P w K mg base "size" ["one", "other"] 5 (spF K 2 m_size) :=
  good_fn (N := ["one", "other"]) (k := 4) (M := []) C.f_size S_size rfl (fun _ _ _ _ _ _ us hl => match us, hl with | [_, _], _ => rfl) (by decide) fun f cdv A outer s H E hr => ⟨_, (ss_cons (s_expr (x_call (ok_need_words C) hr (takes_of rfl rfl rfl rfl) (ea_cons (ev_var 0 rfl (.inl (by kernel_rfl)) (by decide)) (ea_cons (ev_var 1 rfl (.inl (by kernel_rfl)) (by decide)) (ea_nil (lv := .c)) (.inl rfl) (fun _ => rfl)) (.inl rfl) (fun _ => rfl)) (len_cons (len_cons len_nil)) rfl (by decide) (gl_of (by kernel_rfl))))
  (ss_one (s_ret (ev_if (et_val (x_call (ok_is_ahead C) hr (takes_of rfl rfl rfl rfl) (ea_cons (ev_var 0 rfl (.inl (by kernel_rfl)) (by decide)) (ea_cons (ev_var 1 rfl (.inl (by kernel_rfl)) (by decide)) (ea_nil (lv := .c)) (.inl rfl) (fun _ => rfl)) (.inl rfl) (fun _ => rfl)) (len_cons (len_cons len_nil)) rfl (by decide) (gl_of (by kernel_rfl)))) (x_call (ok_gap_of C) hr (takes_of rfl rfl rfl rfl) (ea_cons (ev_var 0 rfl (.inl (by kernel_rfl)) (by decide)) (ea_cons (ev_var 1 rfl (.inl (by kernel_rfl)) (by decide)) (ea_nil (lv := .c)) (.inl rfl) (fun _ => rfl)) (.inl rfl) (fun _ => rfl)) (len_cons (len_cons len_nil)) rfl (by decide) (gl_of (by kernel_rfl))) ev_non))))⟩
theorem S_first_fault : FnScope ["one", "other", "places"] ["one", "other", "places"] (defScope s_first_fault) := ⟨rfl, rfl, rfl, by decide +kernel, rfl, by decide +kernel, by decide +kernel⟩
def F_first_fault : FS :=
  (sSeq (sExpr (fCallF m_need_words (fCons (fVar 0) (fCons (fVar 1) fNil))))
  (sSeq (sExpr (fCallF m_need_number (fCons (fVar 2) (fCons (fC (.int 0)) (fCons (fC (.int 400)) fNil)))))
  (sRet (fCallF m_fault_of (fCons (fVar 0) (fCons (fVar 1) (fCons (fVar 2) fNil)))))))
def m_first_fault : List D → Res := runF F_first_fault 3 3
theorem ok_first_fault {P : Program} {w : World} {K : PySem.W.Frag} {mg : Str → Option Value} {base : Heap} (C : Facts K mg) : Good P w K mg base "first_fault" ["one", "other", "places"] 5 (spF K 3 m_first_fault) :=
  good_fn (N := ["one", "other", "places"]) (k := 4) (M := []) C.f_first_fault S_first_fault rfl (fun _ _ _ _ _ _ us hl => match us, hl with | [_, _, _], _ => rfl) (by decide) fun f cdv A outer s H E hr => ⟨_, (ss_cons (s_expr (x_call (ok_need_words C) hr (takes_of rfl rfl rfl rfl) (ea_cons (ev_var 0 rfl (.inl (by kernel_rfl)) (by decide)) (ea_cons (ev_var 1 rfl (.inl (by kernel_rfl)) (by decide)) (ea_nil (lv := .c)) (.inl rfl) (fun _ => rfl)) (.inl rfl) (fun _ => rfl)) (len_cons (len_cons len_nil)) rfl (by decide) (gl_of (by kernel_rfl))))
  (ss_cons (s_expr (x_call (ok_need_number C) hr (takes_of rfl rfl rfl rfl) (ea_cons (ev_var 2 rfl (.inl (by kernel_rfl)) (by decide)) (ea_cons ev_int (ea_cons (ev_globI (gl_of (by kernel_rfl)) C.i_MOST_BITS) (ea_nil (lv := .c)) (.inl rfl) (fun _ => rfl)) (.inl rfl) (fun _ => rfl)) (.inl rfl) (fun _ => rfl)) (len_cons (len_cons (len_cons len_nil))) rfl (by decide) (gl_of (by kernel_rfl))))
  (ss_one (s_ret (x_call (ok_fault_of C) hr (takes_of rfl rfl rfl rfl) (ea_cons (ev_var 0 rfl (.inl (by kernel_rfl)) (by decide)) (ea_cons (ev_var 1 rfl (.inl (by kernel_rfl)) (by decide)) (ea_cons (ev_var 2 rfl (.inl (by kernel_rfl)) (by decide)) (ea_nil (lv := .c)) (.inl rfl) (fun _ => rfl)) (.inl rfl) (fun _ => rfl)) (.inl rfl) (fun _ => rfl)) (len_cons (len_cons (len_cons len_nil))) rfl (by decide) (gl_of (by kernel_rfl)))))))⟩
theorem S_earliest : FnScope ["one", "other"] ["one", "other"] (defScope s_earliest) := ⟨rfl, rfl, rfl, by decide +kernel, rfl, by decide +kernel, by decide +kernel⟩
def F_earliest : FS :=
  (sSeq (sExpr (fCallF m_need_words (fCons (fVar 0) (fCons (fVar 1) fNil))))
  (sRet (fCallF m_chosen (fCons (fCallF m_normal_of (fCons (fVar 0) fNil)) (fCons (fCallF m_normal_of (fCons (fVar 1) fNil)) (fCons (fC (.bl true)) fNil))))))
def m_earliest : List D → Res := runF F_earliest 2 2
theorem ok_earliest {P : Program} {w : World} {K : PySem.W.Frag} {mg : Str → Option Value} {base : Heap} (C : Facts K mg) : Good P w K mg base "earliest" ["one", "other"] 6 (spF K 2 m_earliest) :=
  good_fn (N := ["one", "other"]) (k := 5) (M := []) C.f_earliest S_earliest rfl (fun _ _ _ _ _ _ us hl => match us, hl with | [_, _], _ => rfl) (by decide) fun f cdv A outer s H E hr => ⟨_, (ss_cons (s_expr (x_call (ok_need_words C) hr (takes_of rfl rfl rfl rfl) (ea_cons (ev_var 0 rfl (.inl (by kernel_rfl)) (by decide)) (ea_cons (ev_var 1 rfl (.inl (by kernel_rfl)) (by decide)) (ea_nil (lv := .c)) (.inl rfl) (fun _ => rfl)) (.inl rfl) (fun _ => rfl)) (len_cons (len_cons len_nil)) rfl (by decide) (gl_of (by kernel_rfl))))
  (ss_one (s_ret (x_call (ok_chosen C) hr (takes_of rfl rfl rfl rfl) (ea_cons (x_call (ok_normal_of C) hr (takes_of rfl rfl rfl rfl) (ea_cons (ev_var 0 rfl (.inl (by kernel_rfl)) (by decide)) (ea_nil (lv := .c)) (.inl rfl) (fun _ => rfl)) (len_cons len_nil) rfl (by decide) (gl_of (by kernel_rfl))) (ea_cons (x_call (ok_normal_of C) hr (takes_of rfl rfl rfl rfl) (ea_cons (ev_var 1 rfl (.inl (by kernel_rfl)) (by decide)) (ea_nil (lv := .c)) (.inl rfl) (fun _ => rfl)) (len_cons len_nil) rfl (by decide) (gl_of (by kernel_rfl))) (ea_cons ev_bl (ea_nil (lv := .c)) (.inl rfl) (fun _ => rfl)) (.inl rfl) (fun _ => rfl)) (.inl rfl) (fun _ => rfl)) (len_cons (len_cons (len_cons len_nil))) rfl (by decide) (gl_of (by kernel_rfl))))))⟩
theorem S_latest : FnScope ["one", "other"] ["one", "other"] (defScope s_latest) := ⟨rfl, rfl, rfl, by decide +kernel, rfl, by decide +kernel, by decide +kernel⟩
def F_latest : FS :=
  (sSeq (sExpr (fCallF m_need_words (fCons (fVar 0) (fCons (fVar 1) fNil))))
  (sRet (fCallF m_chosen (fCons (fCallF m_normal_of (fCons (fVar 0) fNil)) (fCons (fCallF m_normal_of (fCons (fVar 1) fNil)) (fCons (fC (.bl false)) fNil))))))
def m_latest : List D → Res := runF F_latest 2 2
theorem ok_latest {P : Program} {w : World} {K : PySem.W.Frag} {mg : Str → Option Value} {base : Heap} (C : Facts K mg) : Good P w K mg base "latest" ["one", "other"] 6 (spF K 2 m_latest) :=
  good_fn (N := ["one", "other"]) (k := 5) (M := []) C.f_latest S_latest rfl (fun _ _ _ _ _ _ us hl => match us, hl with | [_, _], _ => rfl) (by decide) fun f cdv A outer s H E hr => ⟨_, (ss_cons (s_expr (x_call (ok_need_words C) hr (takes_of rfl rfl rfl rfl) (ea_cons (ev_var 0 rfl (.inl (by kernel_rfl)) (by decide)) (ea_cons (ev_var 1 rfl (.inl (by kernel_rfl)) (by decide)) (ea_nil (lv := .c)) (.inl rfl) (fun _ => rfl)) (.inl rfl) (fun _ => rfl)) (len_cons (len_cons len_nil)) rfl (by decide) (gl_of (by kernel_rfl))))
  (ss_one (s_ret (x_call (ok_chosen C) hr (takes_of rfl rfl rfl rfl) (ea_cons (x_call (ok_normal_of C) hr (takes_of rfl rfl rfl rfl) (ea_cons (ev_var 0 rfl (.inl (by kernel_rfl)) (by decide)) (ea_nil (lv := .c)) (.inl rfl) (fun _ => rfl)) (len_cons len_nil) rfl (by decide) (gl_of (by kernel_rfl))) (ea_cons (x_call (ok_normal_of C) hr (takes_of rfl rfl rfl rfl) (ea_cons (ev_var 1 rfl (.inl (by kernel_rfl)) (by decide)) (ea_nil (lv := .c)) (.inl rfl) (fun _ => rfl)) (len_cons len_nil) rfl (by decide) (gl_of (by kernel_rfl))) (ea_cons ev_bl (ea_nil (lv := .c)) (.inl rfl) (fun _ => rfl)) (.inl rfl) (fun _ => rfl)) (.inl rfl) (fun _ => rfl)) (len_cons (len_cons (len_cons len_nil))) rfl (by decide) (gl_of (by kernel_rfl))))))⟩
theorem S_law : FnScope ["_law_script", "_law_row", "_law_one", "_law_mixed", "_law_some", "_law_other", "_law_turn", "_law_many", "_law_sums_here", "_law_word_here", "_law_apart", "_law_at", "_law_drift", "_law_due", "_law_ahead", "_law_long", "_law_texts", "_law_text", "_law_most", "_law_told", "_law_places", "_law_fault", "_law_left", "_law_found"] ["_law_script"] (defScope s_law) := ⟨rfl, rfl, rfl, by decide +kernel, rfl, by decide +kernel, by decide +kernel⟩
def F_law_1 : FS := (sSetL 1 (fLstL (fCons (fVar 0) (fCons (fC (.int 0)) (fCons (fC (.int 8602)) (fCons (fC (.int 0)) fNil))))))
def F_law_2 : FS := (sSet 2 (fRow 1 m_law_word (fCons (fC (.int 6)) fNil)))
def F_law_3 : FS := (sSet 3 (fCallF m_law_orders (fCons (fOfL (fListOf3 (fSl (fOp opIx (fVar 2) (fC (.int 1))) fNoPart (fPart (fC (.int 4)))))) fNil)))
def F_law_4 : FS := (sSet 4 (fOfL (fLstL (fCons (fRow 1 m_law_word (fCons (fC (.int 6)) fNil)) (fCons (fTup (fCons (fOp opIx (fRow 1 m_law_word (fCons (fC (.int 4)) fNil)) (fC (.int 0))) (fCons (fOp opIx (fVar 2) (fC (.int 1))) fNil))) (fCons (fTup (fCons (fOp opAdd (fOp opMul (fC (.str [48])) (fRow 1 m_law_taken (fCons (fC (.int 4)) fNil))) (fOp opIx (fVar 2) (fC (.int 0)))) (fCons (fOp opIx (fVar 2) (fC (.int 1))) fNil))) fNil))))))
def F_law_5 : FS := (sSet 5 (fRow 1 m_law_pick (fCons (fVar 4) fNil)))
def F_law_6 : FS := (sIf (fTst (fOp opEq (fRow 1 m_law_taken (fCons (fC (.int 3)) fNil)) (fC (.int 0)))) (sSet 5 (fTup (fCons (fOp opIx (fVar 2) (fC (.int 0))) (fCons (fOp opAdd (fM1 bJoin (fC (.str [])) (fRow 1 m_law_pick (fCons (fVar 3) fNil))) (fSl (fOp opIx (fVar 2) (fC (.int 1))) (fPart (fC (.int 4))) fNoPart)) fNil)))) sNx)
def F_law_7 : FS := (sSet 6 (fCallF m_law_lcm (fCons (fCall bLen (fCons (fOp opIx (fVar 2) (fC (.int 1))) fNil)) (fCons (fCall bLen (fCons (fOp opIx (fVar 5) (fC (.int 1))) fNil)) fNil))))
def F_law_8 : FS := (sSet 7 (fOp opAdd (fC (.int 8)) (fOp opMul (fC (.int 2)) (fVar 6))))
def F_law_9 : FS := (sSet 8 (fOfL (fComp [9] (fIt (fOfL (fLstL (fCons (fVar 2) (fCons (fVar 5) fNil))))) (gfN 9) fYes (fCallF m_law_sums (fCons (fCallF m_law_bits (fCons (fVar 9) (fCons (fVar 7) fNil))) fNil)))))
def F_law_10 : FS := (sSet 10 (fOfL (fComp [11] (fRng1 (fOp opAdd (fVar 7) (fC (.int 1)))) (gfN 11) fYes (fOp opSub (fOp opIx (fOp opIx (fVar 8) (fC (.int 0))) (fVar 11)) (fOp opIx (fOp opIx (fVar 8) (fC (.int 1))) (fVar 11))))))
def F_law_11 : FS := (sSet 12 (fOp opSub (fOp opIx (fVar 10) (fVar 7)) (fOp opIx (fVar 10) (fOp opSub (fVar 7) (fVar 6)))))
def F_law_12 : FS := (sSet 13 (fIf (fTst (fOp (opCmp fun i j => decide (j < i)) (fVar 12) (fC (.int 0)))) (fC .non) (fCall bMaxL (fCons (fVar 10) fNil))))
def F_law_13 : FS := (sSet 14 (fAndV (fOp (opCmp fun i j => decide (j ≤ i)) (fCall bMinL (fCons (fVar 10) fNil)) (fC (.int 0))) (fOp (opCmp fun i j => decide (j ≤ i)) (fVar 12) (fC (.int 0)))))
def F_law_14 : FS := (sIf (fNot (fTst (fCallF (m_law_alike 3) (fCons (fOfL (fLstL (fCons (fCallF m_gap (fCons (fVar 2) (fCons (fVar 5) fNil))) (fCons (fCallF m_is_earlier (fCons (fVar 2) (fCons (fVar 5) fNil))) fNil)))) (fCons (fOfL (fLstL (fCons (fVar 13) (fCons (fVar 14) fNil)))) fNil))))) (sRet (fC (.bl false))) sNx)
def F_law_15 : FS := (sIf (fNot (fTst (fCallF (m_law_alike 3) (fCons (fCallF m_size (fCons (fVar 2) (fCons (fVar 5) fNil))) (fCons (fIf (fTst (fVar 14)) (fVar 13) (fC .non)) fNil))))) (sRet (fC (.bl false))) sNx)
def F_law_16 : FS := (sSet 15 (fOp opAdd (fC (.int 8)) (fOp opMul (fC (.int 60)) (fVar 6))))
def F_law_17 : FS := (sSet 16 (fOfL (fComp [9] (fIt (fOfL (fLstL (fCons (fVar 2) (fCons (fVar 5) fNil))))) (gfN 9) fYes (fCallF m_law_bits (fCons (fVar 9) (fCons (fVar 15) fNil))))))
def F_law_18 : FS := (sSet 8 (fOfL (fComp [17] (fIt (fVar 16)) (gfN 17) fYes (fCallF m_law_sums (fCons (fVar 17) fNil)))))
def F_law_19 : FS := (sFor (fIt (fOfL (fLstL (fCons (fC (.bl true)) (fCons (fC (.bl false)) fNil))))) (gfN 18) (sSeq (sSet 19 (fOfL (fComp [11] (fRng1 (fOp opAdd (fVar 15) (fC (.int 1)))) (gfN 11) fYes (fIf (fTst (fVar 18)) (fCall bMax2 (fCons (fOp opIx (fOp opIx (fVar 8) (fC (.int 0))) (fVar 11)) (fCons (fOp opIx (fOp opIx (fVar 8) (fC (.int 1))) (fVar 11)) fNil))) (fCall bMin2 (fCons (fOp opIx (fOp opIx (fVar 8) (fC (.int 0))) (fVar 11)) (fCons (fOp opIx (fOp opIx (fVar 8) (fC (.int 1))) (fVar 11)) fNil)))))))
  (sSeq (sSet 17 (fM1 bJoin (fC (.str [])) (fOfL (fComp [11] (fRng1 (fVar 15)) (gfN 11) fYes (fIf (fTst (fOp (opCmp fun i j => decide (j < i)) (fOp opIx (fVar 19) (fOp opAdd (fVar 11) (fC (.int 1)))) (fOp opIx (fVar 19) (fVar 11)))) (fC (.str [49])) (fC (.str [48])))))))
  (sIf (fNot (fTst (fCallF m_law_is_word (fCons (fIf (fTst (fVar 18)) (fCallF m_earliest (fCons (fVar 2) (fCons (fVar 5) fNil))) (fCallF m_latest (fCons (fVar 2) (fCons (fVar 5) fNil)))) (fCons (fVar 17) fNil))))) (sRet (fC (.bl false))) sNx))))
def F_law_20 : FS := (sPar 20 21 (fRow 1 m_law_taken (fCons (fC (.int 4)) fNil)) (fC .non))
def F_law_21 : FS := (sFor (fRng2 (fC (.int 1)) (fOp opAdd (fVar 15) (fC (.int 1)))) (gfN 11) (sSeq (sSet 22 (fOp opSub (fOp opIx (fOp opIx (fVar 8) (fC (.int 0))) (fVar 11)) (fOp opIx (fOp opIx (fVar 8) (fC (.int 1))) (fVar 11))))
  (sIf (fAnd (fTst (fOp opIs (fVar 21) (fC .non))) (fOr (fTst (fOp (opCmp fun i j => decide (i < j)) (fVar 22) (fC (.int 0)))) (fTst (fOp (opCmp fun i j => decide (j < i)) (fVar 22) (fVar 20))))) (sSet 21 (fTup (fCons (fVar 11) (fCons (fIf (fTst (fOp (opCmp fun i j => decide (i < j)) (fVar 22) (fC (.int 0)))) (fC (.str [119, 97, 110, 116])) (fC (.str [102, 117, 108, 108]))) fNil)))) sNx)))
def F_law_22 : FS := (sSet 23 (fCallF m_first_fault (fCons (fVar 2) (fCons (fVar 5) (fCons (fVar 20) fNil)))))
def F_law_23 : FS := (sIf (fNot (fTst (fCallF (m_law_alike 3) (fCons (fVar 23) (fCons (fVar 21) fNil))))) (sRet (fC (.bl false))) sNx)
def F_law_24 : FS := (sIf (fOr (fTst (fOp opIs (fVar 13) (fC .non))) (fNot (fTst (fVar 14)))) (sRet (fC (.bl true))) sNx)
def F_law_25 : FS := (sRet (fAndV (fOp opIs (fCallF m_first_fault (fCons (fVar 2) (fCons (fVar 5) (fCons (fVar 13) fNil)))) (fC .non)) (fOrV (fOp opEq (fVar 13) (fC (.int 0))) (fOp opIsnt (fCallF m_first_fault (fCons (fVar 2) (fCons (fVar 5) (fCons (fOp opSub (fVar 13) (fC (.int 1))) fNil)))) (fC .non)))))
def F_law : FS :=
  (sSeq F_law_1 (sSeq F_law_2 (sSeq F_law_3 (sSeq F_law_4 (sSeq F_law_5 (sSeq F_law_6 (sSeq F_law_7 (sSeq F_law_8 (sSeq F_law_9 (sSeq F_law_10 (sSeq F_law_11 (sSeq F_law_12 (sSeq F_law_13 (sSeq F_law_14 (sSeq F_law_15 (sSeq F_law_16 (sSeq F_law_17 (sSeq F_law_18 (sSeq F_law_19 (sSeq F_law_20 (sSeq F_law_21 (sSeq F_law_22 (sSeq F_law_23 (sSeq F_law_24 F_law_25))))))))))))))))))))))))
def m_law : List D → Res := runF F_law 24 1
theorem ok_law {P : Program} {w : World} {K : PySem.W.Frag} {mg : Str → Option Value} {base : Heap} (C : Facts K mg) {f : Addr} {fd : FuncData} (FD : FunD K "law" "law" (defArgs s_law) (defBody s_law) (defScope s_law) [] [] f fd) : FnOk P w K mg base (L2.CX P w) 7 f fd ["_law_script"] (spF K 1 m_law) :=
  fn_fn (N := ["_law_script", "_law_row", "_law_one", "_law_mixed", "_law_some", "_law_other", "_law_turn", "_law_many", "_law_sums_here", "_law_word_here", "_law_apart", "_law_at", "_law_drift", "_law_due", "_law_ahead", "_law_long", "_law_texts", "_law_text", "_law_most", "_law_told", "_law_places", "_law_fault", "_law_left", "_law_found"]) (k := 6) (M := [1]) FD S_law rfl (by decide) fun f cdv A outer s H E hr => ⟨_, (ss_cons (s_setL (i := 1) S_law.nd rfl (.inl (by kernel_rfl)) (by decide) (by decide) (el_lst (ea_cons (ev_var 0 rfl (.inl (by kernel_rfl)) (by decide)) (ea_cons ev_int (ea_cons ev_int (ea_cons ev_int (ea_nil (lv := .c)) (.inl rfl) (fun _ => rfl)) (.inl rfl) (fun _ => rfl)) (.inl rfl) (fun _ => rfl)) (.inl rfl) (fun _ => rfl))) rfl (.inr (by kernel_rfl)))
  (ss_cons (s_set (i := 2) S_law.nd rfl (.inl (by kernel_rfl)) (by decide) (x_row (i := 1) (ok_law_word C) hr (takes_of rfl rfl rfl rfl) rfl rfl (.inl (by kernel_rfl)) (by decide) (ea_cons ev_int (ea_nil (lv := .c)) (.inl rfl) (fun _ => rfl)) (len_cons len_nil) rfl (by decide) (gl_of (by kernel_rfl))) rfl (.inr (by kernel_rfl)))
  (ss_cons (s_set (i := 3) S_law.nd rfl (.inl (by kernel_rfl)) (by decide) (x_call (ok_law_orders C) hr (takes_of rfl rfl rfl rfl) (ea_cons (ev_ofL (el_list3 rfl rfl rfl (gl_of (by kernel_rfl)) C.b_list (ev_sl rfl (ev_ix rfl (fun _ _ => rfl) (ev_var 2 rfl (.inl (by kernel_rfl)) (by decide)) ev_int) eo_none (eo_some ev_int)) (by decide))) (ea_nil (lv := .c)) (.inl rfl) (fun _ => rfl)) (len_cons len_nil) rfl (by decide) (gl_of (by kernel_rfl))) rfl (.inr (by kernel_rfl)))
  (ss_cons (s_set (i := 4) S_law.nd rfl (.inl (by kernel_rfl)) (by decide) (ev_ofL (el_lst (ea_cons (x_row (i := 1) (ok_law_word C) hr (takes_of rfl rfl rfl rfl) rfl rfl (.inl (by kernel_rfl)) (by decide) (ea_cons ev_int (ea_nil (lv := .c)) (.inl rfl) (fun _ => rfl)) (len_cons len_nil) rfl (by decide) (gl_of (by kernel_rfl))) (ea_cons (ev_tup (ea_cons (ev_ix rfl (fun _ _ => rfl) (x_row (i := 1) (ok_law_word C) hr (takes_of rfl rfl rfl rfl) rfl rfl (.inl (by kernel_rfl)) (by decide) (ea_cons ev_int (ea_nil (lv := .c)) (.inl rfl) (fun _ => rfl)) (len_cons len_nil) rfl (by decide) (gl_of (by kernel_rfl))) ev_int) (ea_cons (ev_ix rfl (fun _ _ => rfl) (ev_var 2 rfl (.inl (by kernel_rfl)) (by decide)) ev_int) (ea_nil (lv := .c)) (.inl rfl) (fun _ => rfl)) (.inl rfl) (fun _ => rfl))) (ea_cons (ev_tup (ea_cons (x_add (x_mul (ev_str [48]) (x_row (i := 1) (ok_law_taken C) hr (takes_of rfl rfl rfl rfl) rfl rfl (.inl (by kernel_rfl)) (by decide) (ea_cons ev_int (ea_nil (lv := .c)) (.inl rfl) (fun _ => rfl)) (len_cons len_nil) rfl (by decide) (gl_of (by kernel_rfl)))) (ev_ix rfl (fun _ _ => rfl) (ev_var 2 rfl (.inl (by kernel_rfl)) (by decide)) ev_int)) (ea_cons (ev_ix rfl (fun _ _ => rfl) (ev_var 2 rfl (.inl (by kernel_rfl)) (by decide)) ev_int) (ea_nil (lv := .c)) (.inl rfl) (fun _ => rfl)) (.inl rfl) (fun _ => rfl))) (ea_nil (lv := .c)) (.inl rfl) (fun _ => rfl)) (.inl rfl) (fun _ => rfl)) (.inl rfl) (fun _ => rfl)))) rfl (.inr (by kernel_rfl)))
  (ss_cons (s_set (i := 5) S_law.nd rfl (.inl (by kernel_rfl)) (by decide) (x_row (i := 1) (ok_law_pick C) hr (takes_of rfl rfl rfl rfl) rfl rfl (.inl (by kernel_rfl)) (by decide) (ea_cons (ev_var 4 rfl (.inl (by kernel_rfl)) (by decide)) (ea_nil (lv := .c)) (.inl rfl) (fun _ => rfl)) (len_cons len_nil) rfl (by decide) (gl_of (by kernel_rfl))) rfl (.inr (by kernel_rfl)))
  (ss_cons (s_if (et_cmp (cm_eq hr) (x_row (i := 1) (ok_law_taken C) hr (takes_of rfl rfl rfl rfl) rfl rfl (.inl (by kernel_rfl)) (by decide) (ea_cons ev_int (ea_nil (lv := .c)) (.inl rfl) (fun _ => rfl)) (len_cons len_nil) rfl (by decide) (gl_of (by kernel_rfl))) ev_int) (ss_one (s_set (i := 5) S_law.nd rfl (.inl (by kernel_rfl)) (by decide) (ev_tup (ea_cons (ev_ix rfl (fun _ _ => rfl) (ev_var 2 rfl (.inl (by kernel_rfl)) (by decide)) ev_int) (ea_cons (x_add (ev_join rfl (ev_str []) (x_row (i := 1) (ok_law_pick C) hr (takes_of rfl rfl rfl rfl) rfl rfl (.inl (by kernel_rfl)) (by decide) (ea_cons (ev_var 3 rfl (.inl (by kernel_rfl)) (by decide)) (ea_nil (lv := .c)) (.inl rfl) (fun _ => rfl)) (len_cons len_nil) rfl (by decide) (gl_of (by kernel_rfl)))) (ev_sl rfl (ev_ix rfl (fun _ _ => rfl) (ev_var 2 rfl (.inl (by kernel_rfl)) (by decide)) ev_int) (eo_some ev_int) eo_none)) (ea_nil (lv := .c)) (.inl rfl) (fun _ => rfl)) (.inl rfl) (fun _ => rfl))) rfl (.inr (by kernel_rfl)))) ss_nil)
  (ss_cons (s_set (i := 6) S_law.nd rfl (.inl (by kernel_rfl)) (by decide) (x_call (ok_law_lcm C) hr (takes_of rfl rfl rfl rfl) (ea_cons (ev_callB (lv := .c) call_len cf_len (gl_of (by kernel_rfl)) C.b_len (by decide +kernel) (ea_cons (ev_ix rfl (fun _ _ => rfl) (ev_var 2 rfl (.inl (by kernel_rfl)) (by decide)) ev_int) (ea_nil (lv := .c)) (.inl rfl) (fun _ => rfl)) (.inr (.inr sc_len))) (ea_cons (ev_callB (lv := .c) call_len cf_len (gl_of (by kernel_rfl)) C.b_len (by decide +kernel) (ea_cons (ev_ix rfl (fun _ _ => rfl) (ev_var 5 rfl (.inl (by kernel_rfl)) (by decide)) ev_int) (ea_nil (lv := .c)) (.inl rfl) (fun _ => rfl)) (.inr (.inr sc_len))) (ea_nil (lv := .c)) (.inl rfl) (fun _ => rfl)) (.inl rfl) (fun _ => rfl)) (len_cons (len_cons len_nil)) rfl (by decide) (gl_of (by kernel_rfl))) rfl (.inr (by kernel_rfl)))
  (ss_cons (s_set (i := 7) S_law.nd rfl (.inr (by kernel_rfl)) (by decide) (x_add ev_int (x_mul ev_int (ev_var 6 rfl (.inl (by kernel_rfl)) (by decide)))) rfl (.inl (by kernel_rfl)))
  (ss_cons (s_set (i := 8) S_law.nd rfl (.inr (by kernel_rfl)) (by decide) (ev_ofL (x_comp rfl (S_law.nd) (own := [("_law_word_here", 9)]) (ei_seq rfl (ev_ofL (el_lst (ea_cons (ev_var 2 rfl (.inl (by kernel_rfl)) (by decide)) (ea_cons (ev_var 5 rfl (.inl (by kernel_rfl)) (by decide)) (ea_nil (lv := .c)) (.inl rfl) (fun _ => rfl)) (.inl rfl) (fun _ => rfl))))) (blkOk_by (by kernel_rfl)) (by decide) (by decide) (fun _ _ _ _ _ => (eg_name 9 S_law.nd rfl (.inl (by kernel_rfl)) (by decide) (.inr (by kernel_rfl)))) (fun _ _ _ _ _ => ets_nil) (fun _ _ _ _ _ => (x_call (ok_law_sums C) hr takes0 (ea_cons (x_call (ok_law_bits C) hr takes0 (ea_cons (ev_var 9 rfl (.inl (by kernel_rfl)) (by decide)) (ea_cons (ev_var 7 rfl (.inr (.inl (by kernel_rfl))) (by decide)) (ea_nil (lv := .c)) (.inl rfl) (fun _ => rfl)) (.inl rfl) (fun _ => rfl)) (len_cons (len_cons len_nil)) rfl (by decide) (gl_of (by kernel_rfl))) (ea_nil (lv := .c)) (.inl rfl) (fun _ => rfl)) (len_cons len_nil) rfl (by decide) (gl_of (by kernel_rfl)))))) rfl (.inl (by kernel_rfl)))
  (ss_cons (x_setC (i := 10) (by decide) rfl (by kernel_rfl) (sw_true rfl (by kernel_rfl) rfl (by kernel_rfl)) rfl S_law.nd (own := [("_law_at", 11)]) (ei_rng1 rfl (gl_of (by kernel_rfl)) C.b_range (x_add (ev_var 7 rfl (.inr (.inl (by kernel_rfl))) (by decide)) ev_int)) (blkOk_by (by kernel_rfl)) (by decide) (by decide) (fun _ _ _ _ _ => (eg_name 11 S_law.nd rfl (.inl (by kernel_rfl)) (by decide) (.inr (by kernel_rfl)))) (fun _ _ _ _ _ => ets_nil) (fun _ _ _ _ _ => (x_sub (ev_ix rfl (fun _ _ => rfl) (ev_ix rfl (fun _ _ => rfl) (ev_var 8 rfl (.inr (.inl (by kernel_rfl))) (by decide)) ev_int) (ev_var 11 rfl (.inl (by kernel_rfl)) (by decide))) (ev_ix rfl (fun _ _ => rfl) (ev_ix rfl (fun _ _ => rfl) (ev_var 8 rfl (.inr (.inl (by kernel_rfl))) (by decide)) ev_int) (ev_var 11 rfl (.inl (by kernel_rfl)) (by decide))))))
  (ss_cons (s_set (i := 12) S_law.nd rfl (.inl (by kernel_rfl)) (by decide) (x_sub (ev_ix rfl (fun _ _ => rfl) (ev_var 10 rfl (.inl (by kernel_rfl)) (by decide)) (ev_var 7 rfl (.inr (.inl (by kernel_rfl))) (by decide))) (ev_ix rfl (fun _ _ => rfl) (ev_var 10 rfl (.inl (by kernel_rfl)) (by decide)) (x_sub (ev_var 7 rfl (.inr (.inl (by kernel_rfl))) (by decide)) (ev_var 6 rfl (.inl (by kernel_rfl)) (by decide))))) rfl (.inr (by kernel_rfl)))
  (ss_cons (s_set (i := 13) S_law.nd rfl (.inl (by kernel_rfl)) (by decide) (ev_if (et_cmp cm_gt (ev_var 12 rfl (.inl (by kernel_rfl)) (by decide)) ev_int) ev_non (ev_callB (lv := .c) (cr_max rfl) cf_max (gl_of (by kernel_rfl)) C.b_max (by decide +kernel) (ea_cons (ev_var 10 rfl (.inl (by kernel_rfl)) (by decide)) (ea_nil (lv := .c)) (.inl rfl) (fun _ => rfl)) (.inr (.inr sc_maxl)))) rfl (.inr (by kernel_rfl)))
  (ss_cons (s_set (i := 14) S_law.nd rfl (.inl (by kernel_rfl)) (by decide) (ev_and (x_cmp cm_ge (ev_callB (lv := .c) (cr_min rfl) cf_min (gl_of (by kernel_rfl)) C.b_min (by decide +kernel) (ea_cons (ev_var 10 rfl (.inl (by kernel_rfl)) (by decide)) (ea_nil (lv := .c)) (.inl rfl) (fun _ => rfl)) (.inr (.inr sc_minl))) ev_int) (ev_one (x_cmp cm_ge (ev_var 12 rfl (.inl (by kernel_rfl)) (by decide)) ev_int))) rfl (.inr (by kernel_rfl)))
  (ss_cons (s_if (et_not (et_val (x_call (ok_law_alike C 3) hr (takes_of rfl rfl rfl rfl) (ea_cons (ev_ofL (el_lst (ea_cons (x_call (ok_gap C) hr (takes_of rfl rfl rfl rfl) (ea_cons (ev_var 2 rfl (.inl (by kernel_rfl)) (by decide)) (ea_cons (ev_var 5 rfl (.inl (by kernel_rfl)) (by decide)) (ea_nil (lv := .c)) (.inl rfl) (fun _ => rfl)) (.inl rfl) (fun _ => rfl)) (len_cons (len_cons len_nil)) rfl (by decide) (gl_of (by kernel_rfl))) (ea_cons (x_call (ok_is_earlier C) hr (takes_of rfl rfl rfl rfl) (ea_cons (ev_var 2 rfl (.inl (by kernel_rfl)) (by decide)) (ea_cons (ev_var 5 rfl (.inl (by kernel_rfl)) (by decide)) (ea_nil (lv := .c)) (.inl rfl) (fun _ => rfl)) (.inl rfl) (fun _ => rfl)) (len_cons (len_cons len_nil)) rfl (by decide) (gl_of (by kernel_rfl))) (ea_nil (lv := .c)) (.inl rfl) (fun _ => rfl)) (.inl rfl) (fun _ => rfl)))) (ea_cons (ev_ofL (el_lst (ea_cons (ev_var 13 rfl (.inl (by kernel_rfl)) (by decide)) (ea_cons (ev_var 14 rfl (.inl (by kernel_rfl)) (by decide)) (ea_nil (lv := .c)) (.inl rfl) (fun _ => rfl)) (.inl rfl) (fun _ => rfl)))) (ea_nil (lv := .c)) (.inl rfl) (fun _ => rfl)) (.inl rfl) (fun _ => rfl)) (len_cons (len_cons len_nil)) rfl (by decide) (gl_of (by kernel_rfl))))) (ss_one (s_ret ev_bl)) ss_nil)
  (ss_cons (s_if (et_not (et_val (x_call (ok_law_alike C 3) hr (takes_of rfl rfl rfl rfl) (ea_cons (x_call (ok_size C) hr (takes_of rfl rfl rfl rfl) (ea_cons (ev_var 2 rfl (.inl (by kernel_rfl)) (by decide)) (ea_cons (ev_var 5 rfl (.inl (by kernel_rfl)) (by decide)) (ea_nil (lv := .c)) (.inl rfl) (fun _ => rfl)) (.inl rfl) (fun _ => rfl)) (len_cons (len_cons len_nil)) rfl (by decide) (gl_of (by kernel_rfl))) (ea_cons (ev_if (et_val (ev_var 14 rfl (.inl (by kernel_rfl)) (by decide))) (ev_var 13 rfl (.inl (by kernel_rfl)) (by decide)) ev_non) (ea_nil (lv := .c)) (.inl rfl) (fun _ => rfl)) (.inl rfl) (fun _ => rfl)) (len_cons (len_cons len_nil)) rfl (by decide) (gl_of (by kernel_rfl))))) (ss_one (s_ret ev_bl)) ss_nil)
  (ss_cons (s_set (i := 15) S_law.nd rfl (.inr (by kernel_rfl)) (by decide) (x_add ev_int (x_mul ev_int (ev_var 6 rfl (.inl (by kernel_rfl)) (by decide)))) rfl (.inl (by kernel_rfl)))
  (ss_cons (x_setC (i := 16) (by decide) rfl (by kernel_rfl) (sw_true rfl (by kernel_rfl) rfl (by kernel_rfl)) rfl S_law.nd (own := [("_law_word_here", 9)]) (ei_seq rfl (ev_ofL (el_lst (ea_cons (ev_var 2 rfl (.inl (by kernel_rfl)) (by decide)) (ea_cons (ev_var 5 rfl (.inl (by kernel_rfl)) (by decide)) (ea_nil (lv := .c)) (.inl rfl) (fun _ => rfl)) (.inl rfl) (fun _ => rfl))))) (blkOk_by (by kernel_rfl)) (by decide) (by decide) (fun _ _ _ _ _ => (eg_name 9 S_law.nd rfl (.inl (by kernel_rfl)) (by decide) (.inr (by kernel_rfl)))) (fun _ _ _ _ _ => ets_nil) (fun _ _ _ _ _ => (x_call (ok_law_bits C) hr takes0 (ea_cons (ev_var 9 rfl (.inl (by kernel_rfl)) (by decide)) (ea_cons (ev_var 15 rfl (.inr (.inl (by kernel_rfl))) (by decide)) (ea_nil (lv := .c)) (.inl rfl) (fun _ => rfl)) (.inl rfl) (fun _ => rfl)) (len_cons (len_cons len_nil)) rfl (by decide) (gl_of (by kernel_rfl)))))
  (ss_cons (s_set (i := 8) S_law.nd rfl (.inr (by kernel_rfl)) (by decide) (ev_ofL (x_comp rfl (S_law.nd) (own := [("_law_text", 17)]) (ei_seq rfl (ev_var 16 rfl (.inl (by kernel_rfl)) (by decide))) (blkOk_by (by kernel_rfl)) (by decide) (by decide) (fun _ _ _ _ _ => (eg_name 17 S_law.nd rfl (.inl (by kernel_rfl)) (by decide) (.inr (by kernel_rfl)))) (fun _ _ _ _ _ => ets_nil) (fun _ _ _ _ _ => (x_call (ok_law_sums C) hr takes0 (ea_cons (ev_var 17 rfl (.inl (by kernel_rfl)) (by decide)) (ea_nil (lv := .c)) (.inl rfl) (fun _ => rfl)) (len_cons len_nil) rfl (by decide) (gl_of (by kernel_rfl)))))) rfl (.inl (by kernel_rfl)))
  (ss_cons (s_for (passes_of rfl) rfl (ei_seq rfl (ev_ofL (el_lst (ea_cons ev_bl (ea_cons ev_bl (ea_nil (lv := .c)) (.inl rfl) (fun _ => rfl)) (.inl rfl) (fun _ => rfl))))) (eg_name 18 S_law.nd rfl (.inr (by kernel_rfl)) (by decide) (.inl (by kernel_rfl))) (ss_cons (s_set (i := 19) S_law.nd rfl (.inr (by kernel_rfl)) (by decide) (ev_ofL (x_comp rfl (S_law.nd) (own := [("_law_at", 11)]) (ei_rng1 rfl (gl_of (by kernel_rfl)) C.b_range (x_add (ev_var 15 rfl (.inr (.inl (by kernel_rfl))) (by decide)) ev_int)) (blkOk_by (by kernel_rfl)) (by decide) (by decide) (fun _ _ _ _ _ => (eg_name 11 S_law.nd rfl (.inl (by kernel_rfl)) (by decide) (.inr (by kernel_rfl)))) (fun _ _ _ _ _ => ets_nil) (fun _ _ _ _ _ => (ev_if (et_val (ev_var 18 rfl (.inr (.inl (by kernel_rfl))) (by decide))) (ev_callB (lv := .c) (call_max2 rfl) cf_max2 (gl_of (by kernel_rfl)) C.b_max (by decide +kernel) (ea_cons (ev_ix rfl (fun _ _ => rfl) (ev_ix rfl (fun _ _ => rfl) (ev_var 8 rfl (.inr (.inl (by kernel_rfl))) (by decide)) ev_int) (ev_var 11 rfl (.inl (by kernel_rfl)) (by decide))) (ea_cons (ev_ix rfl (fun _ _ => rfl) (ev_ix rfl (fun _ _ => rfl) (ev_var 8 rfl (.inr (.inl (by kernel_rfl))) (by decide)) ev_int) (ev_var 11 rfl (.inl (by kernel_rfl)) (by decide))) (ea_nil (lv := .c)) (.inl rfl) (fun _ => rfl)) (.inl rfl) (fun _ => rfl)) (.inr (.inr sc_max2))) (ev_callB (lv := .c) (call_min2 rfl) cf_min2 (gl_of (by kernel_rfl)) C.b_min (by decide +kernel) (ea_cons (ev_ix rfl (fun _ _ => rfl) (ev_ix rfl (fun _ _ => rfl) (ev_var 8 rfl (.inr (.inl (by kernel_rfl))) (by decide)) ev_int) (ev_var 11 rfl (.inl (by kernel_rfl)) (by decide))) (ea_cons (ev_ix rfl (fun _ _ => rfl) (ev_ix rfl (fun _ _ => rfl) (ev_var 8 rfl (.inr (.inl (by kernel_rfl))) (by decide)) ev_int) (ev_var 11 rfl (.inl (by kernel_rfl)) (by decide))) (ea_nil (lv := .c)) (.inl rfl) (fun _ => rfl)) (.inl rfl) (fun _ => rfl)) (.inr (.inr sc_min2))))))) rfl (.inl (by kernel_rfl)))
  (ss_cons (s_set (i := 17) S_law.nd rfl (.inl (by kernel_rfl)) (by decide) (ev_join rfl (ev_str []) (ev_ofL (x_comp rfl (S_law.nd) (own := [("_law_at", 11)]) (ei_rng1 rfl (gl_of (by kernel_rfl)) C.b_range (ev_var 15 rfl (.inr (.inl (by kernel_rfl))) (by decide))) (blkOk_by (by kernel_rfl)) (by decide) (by decide) (fun _ _ _ _ _ => (eg_name 11 S_law.nd rfl (.inl (by kernel_rfl)) (by decide) (.inr (by kernel_rfl)))) (fun _ _ _ _ _ => ets_nil) (fun _ _ _ _ _ => (ev_if (et_cmp cm_gt (ev_ix rfl (fun _ _ => rfl) (ev_var 19 rfl (.inr (.inl (by kernel_rfl))) (by decide)) (x_add (ev_var 11 rfl (.inl (by kernel_rfl)) (by decide)) ev_int)) (ev_ix rfl (fun _ _ => rfl) (ev_var 19 rfl (.inr (.inl (by kernel_rfl))) (by decide)) (ev_var 11 rfl (.inl (by kernel_rfl)) (by decide)))) (ev_str [49]) (ev_str [48])))))) rfl (.inr (by kernel_rfl)))
  (ss_one (s_if (et_not (et_val (x_call (ok_law_is_word C) hr (takes_of rfl rfl rfl rfl) (ea_cons (ev_if (et_val (ev_var 18 rfl (.inr (.inl (by kernel_rfl))) (by decide))) (x_call (ok_earliest C) hr (takes_of rfl rfl rfl rfl) (ea_cons (ev_var 2 rfl (.inl (by kernel_rfl)) (by decide)) (ea_cons (ev_var 5 rfl (.inl (by kernel_rfl)) (by decide)) (ea_nil (lv := .c)) (.inl rfl) (fun _ => rfl)) (.inl rfl) (fun _ => rfl)) (len_cons (len_cons len_nil)) rfl (by decide) (gl_of (by kernel_rfl))) (x_call (ok_latest C) hr (takes_of rfl rfl rfl rfl) (ea_cons (ev_var 2 rfl (.inl (by kernel_rfl)) (by decide)) (ea_cons (ev_var 5 rfl (.inl (by kernel_rfl)) (by decide)) (ea_nil (lv := .c)) (.inl rfl) (fun _ => rfl)) (.inl rfl) (fun _ => rfl)) (len_cons (len_cons len_nil)) rfl (by decide) (gl_of (by kernel_rfl)))) (ea_cons (ev_var 17 rfl (.inl (by kernel_rfl)) (by decide)) (ea_nil (lv := .c)) (.inl rfl) (fun _ => rfl)) (.inl rfl) (fun _ => rfl)) (len_cons (len_cons len_nil)) rfl (by decide) (gl_of (by kernel_rfl))))) (ss_one (s_ret ev_bl)) ss_nil)))))
  (ss_cons (s_par (i := 20) (j := 21) rfl S_law.nd rfl rfl (by decide) (by kernel_rfl) (by kernel_rfl) (by decide) (by decide) (x_row (i := 1) (ok_law_taken C) hr (takes_of rfl rfl rfl rfl) rfl rfl (.inl (by kernel_rfl)) (by decide) (ea_cons ev_int (ea_nil (lv := .c)) (.inl rfl) (fun _ => rfl)) (len_cons len_nil) rfl (by decide) (gl_of (by kernel_rfl))) ev_non rfl)
  (ss_cons (s_for (passes_of rfl) rfl (ei_rng2 rfl (gl_of (by kernel_rfl)) C.b_range ev_int (x_add (ev_var 15 rfl (.inr (.inl (by kernel_rfl))) (by decide)) ev_int)) (eg_name 11 S_law.nd rfl (.inl (by kernel_rfl)) (by decide) (.inr (by kernel_rfl))) (ss_cons (s_set (i := 22) S_law.nd rfl (.inl (by kernel_rfl)) (by decide) (x_sub (ev_ix rfl (fun _ _ => rfl) (ev_ix rfl (fun _ _ => rfl) (ev_var 8 rfl (.inr (.inl (by kernel_rfl))) (by decide)) ev_int) (ev_var 11 rfl (.inl (by kernel_rfl)) (by decide))) (ev_ix rfl (fun _ _ => rfl) (ev_ix rfl (fun _ _ => rfl) (ev_var 8 rfl (.inr (.inl (by kernel_rfl))) (by decide)) ev_int) (ev_var 11 rfl (.inl (by kernel_rfl)) (by decide)))) rfl (.inr (by kernel_rfl)))
  (ss_one (s_if (EwT.et (ew_and (et_cmp cm_is (ev_var 21 rfl (.inl (by kernel_rfl)) (by decide)) ev_non) (ew_and1 (EwT.et (ew_or (et_cmp cm_lt (ev_var 22 rfl (.inl (by kernel_rfl)) (by decide)) ev_int) (ew_or1 (et_cmp cm_gt (ev_var 22 rfl (.inl (by kernel_rfl)) (by decide)) (ev_var 20 rfl (.inl (by kernel_rfl)) (by decide))))))))) (ss_one (s_set (i := 21) S_law.nd rfl (.inl (by kernel_rfl)) (by decide) (ev_tup (ea_cons (ev_var 11 rfl (.inl (by kernel_rfl)) (by decide)) (ea_cons (ev_if (et_cmp cm_lt (ev_var 22 rfl (.inl (by kernel_rfl)) (by decide)) ev_int) (ev_str [119, 97, 110, 116]) (ev_str [102, 117, 108, 108])) (ea_nil (lv := .c)) (.inl rfl) (fun _ => rfl)) (.inl rfl) (fun _ => rfl))) rfl (.inr (by kernel_rfl)))) ss_nil))))
  (ss_cons (s_set (i := 23) S_law.nd rfl (.inl (by kernel_rfl)) (by decide) (x_call (ok_first_fault C) hr (takes_of rfl rfl rfl rfl) (ea_cons (ev_var 2 rfl (.inl (by kernel_rfl)) (by decide)) (ea_cons (ev_var 5 rfl (.inl (by kernel_rfl)) (by decide)) (ea_cons (ev_var 20 rfl (.inl (by kernel_rfl)) (by decide)) (ea_nil (lv := .c)) (.inl rfl) (fun _ => rfl)) (.inl rfl) (fun _ => rfl)) (.inl rfl) (fun _ => rfl)) (len_cons (len_cons (len_cons len_nil))) rfl (by decide) (gl_of (by kernel_rfl))) rfl (.inr (by kernel_rfl)))
  (ss_cons (s_if (et_not (et_val (x_call (ok_law_alike C 3) hr (takes_of rfl rfl rfl rfl) (ea_cons (ev_var 23 rfl (.inl (by kernel_rfl)) (by decide)) (ea_cons (ev_var 21 rfl (.inl (by kernel_rfl)) (by decide)) (ea_nil (lv := .c)) (.inl rfl) (fun _ => rfl)) (.inl rfl) (fun _ => rfl)) (len_cons (len_cons len_nil)) rfl (by decide) (gl_of (by kernel_rfl))))) (ss_one (s_ret ev_bl)) ss_nil)
  (ss_cons (s_if (EwT.et (ew_or (et_cmp cm_is (ev_var 13 rfl (.inl (by kernel_rfl)) (by decide)) ev_non) (ew_or1 (et_not (et_val (ev_var 14 rfl (.inl (by kernel_rfl)) (by decide))))))) (ss_one (s_ret ev_bl)) ss_nil)
  (ss_one (s_ret (ev_and (x_cmp cm_is (x_call (ok_first_fault C) hr (takes_of rfl rfl rfl rfl) (ea_cons (ev_var 2 rfl (.inl (by kernel_rfl)) (by decide)) (ea_cons (ev_var 5 rfl (.inl (by kernel_rfl)) (by decide)) (ea_cons (ev_var 13 rfl (.inl (by kernel_rfl)) (by decide)) (ea_nil (lv := .c)) (.inl rfl) (fun _ => rfl)) (.inl rfl) (fun _ => rfl)) (.inl rfl) (fun _ => rfl)) (len_cons (len_cons (len_cons len_nil))) rfl (by decide) (gl_of (by kernel_rfl))) ev_non) (ev_one (ev_or (x_cmp (cm_eq hr) (ev_var 13 rfl (.inl (by kernel_rfl)) (by decide)) ev_int) (ev_one (x_cmp cm_isnt (x_call (ok_first_fault C) hr (takes_of rfl rfl rfl rfl) (ea_cons (ev_var 2 rfl (.inl (by kernel_rfl)) (by decide)) (ea_cons (ev_var 5 rfl (.inl (by kernel_rfl)) (by decide)) (ea_cons (x_sub (ev_var 13 rfl (.inl (by kernel_rfl)) (by decide)) ev_int) (ea_nil (lv := .c)) (.inl rfl) (fun _ => rfl)) (.inl rfl) (fun _ => rfl)) (.inl rfl) (fun _ => rfl)) (len_cons (len_cons (len_cons len_nil))) rfl (by decide) (gl_of (by kernel_rfl))) ev_non)))))))))))))))))))))))))))))))⟩
end Lw

namespace Lw
open PySem PySem.Spec PyProof PyProof.Rows DL ES
theorem within_int (v lo hi : Int) : m_within [.int v, .int lo, .int hi] = .ok (.bl (decide (lo ≤ v) && decide (v ≤ hi))) := by
  by_cases h : lo ≤ v
  · simp [runF, runR, start0, sRet, sSeq, sIf, sSet, sSetL, sPar, sParL, sAsg, sExpr, sSetIx, sApp, sAug, sNx, sBad, sBk, sRetN, thenS, fVar, fC, fOp, fUn, fTst, fNot, fAnd, fOr, fIf, fNil, fCons, fTup, fCall, fAndV, fOrV, fChain, fIsi, fIsi2, isTy, fSl, fNoPart, fPart, fM1, fCallF, fOwnIx, fRow, fOfL, fLstL, gfN, gfT, gfC, gfNil, Out.bind, ofO, opCmp, opIx, opAdd, opSub, unNeg, unNot, opSl, bLen, bInt, m_within, F_within, h]
  · simp [runF, runR, start0, sRet, sSeq, sIf, sSet, sSetL, sPar, sParL, sAsg, sExpr, sSetIx, sApp, sAug, sNx, sBad, sBk, sRetN, thenS, fVar, fC, fOp, fUn, fTst, fNot, fAnd, fOr, fIf, fNil, fCons, fTup, fCall, fAndV, fOrV, fChain, fIsi, fIsi2, isTy, fSl, fNoPart, fPart, fM1, fCallF, fOwnIx, fRow, fOfL, fLstL, gfN, gfT, gfC, gfNil, Out.bind, ofO, opCmp, opIx, opAdd, opSub, unNeg, unNot, opSl, bLen, bInt, m_within, F_within, h]
theorem need_number_int {v lo hi : Int} (h : lo ≤ v) (k : v ≤ hi) : m_need_number [.int v, .int lo, .int hi] = .ok .non := by
  simp [runF, runR, start0, sRet, sSeq, sIf, sSet, sSetL, sPar, sParL, sAsg, sExpr, sSetIx, sApp, sAug, sNx, sBad, sBk, sRetN, thenS, fVar, fC, fOp, fUn, fTst, fNot, fAnd, fOr, fIf, fNil, fCons, fTup, fCall, fAndV, fOrV, fChain, fIsi, fIsi2, isTy, fSl, fNoPart, fPart, fM1, fCallF, fOwnIx, fRow, fOfL, fLstL, gfN, gfT, gfC, gfNil, Out.bind, ofO, opCmp, opIx, opAdd, opSub, unNeg, unNot, opSl, bLen, bInt, m_need_number, F_need_number, within_int, h, k]
theorem compP_all {tgt : FG} {c : FT} {f : FE} {ρ0 : Rho} {α : Type} {g : α → D} {h : α → D} : ∀ (l : List α), (∀ x ∈ l, ∃ ρt ρ1 ρ2, tgt (g x) ρ0 = some ρt ∧ c ρt = .ok true ρ1 ∧ f ρt = .ok (h x) ρ2) → compP tgt c f ρ0 (l.map g) = some (l.map h)
  | [], _ => rfl
  | x :: l, k => by
    obtain ⟨ρt, ρ1, ρ2, h1, h2, h3⟩ := k x List.mem_cons_self
    rw [List.map_cons, List.map_cons]
    unfold compP
    simp only [h1, h2, h3, compP_all l fun y hy => k y (List.mem_cons_of_mem _ hy), Option.map_some]
theorem compP_filter {tgt : FG} {c : FT} {f : FE} {ρ0 : Rho} {α : Type} {g : α → D} {h : α → D} {p : α → Bool} : ∀ (l : List α), (∀ x ∈ l, ∃ ρt ρ1, tgt (g x) ρ0 = some ρt ∧ c ρt = .ok (p x) ρ1 ∧ (p x = true → ∃ ρ2, f ρt = .ok (h x) ρ2)) → compP tgt c f ρ0 (l.map g) = some ((l.filter p).map h)
  | [], _ => rfl
  | x :: l, k => by
    obtain ⟨ρt, ρ1, h1, h2, h3⟩ := k x List.mem_cons_self
    have ih := compP_filter l fun y hy => k y (List.mem_cons_of_mem _ hy)
    rw [List.map_cons]
    unfold compP
    cases hp : p x with
    | false => simp only [h1, h2, hp, ih, List.filter_cons, Bool.false_eq_true, if_false]
    | true =>
      obtain ⟨ρ2, h4⟩ := h3 hp
      simp only [h1, h2, hp, h4, ih, List.filter_cons, if_true, Option.map_some, List.map_cons]
theorem is_bits_ok {s : List Nat} (h : Bt s) (hl : s.length ≤ 400) {lo : Nat} (hlo : lo ≤ s.length) : m_is_bits [.str s, .int lo] = .ok (.bl true) := by
  have hc : compP (gfN 2) fYes (fOp opIn (fVar 2) (fTup (fCons (fC (.str [48])) (fCons (fC (.str [49])) fNil)))) (wipeR [some (.str s), some (.int lo), none] [2]) (s.map fun c => .str [c]) = some (s.map fun _ => .bl true) := by
    refine compP_all (g := fun c => .str [c]) (h := fun _ => .bl true) s fun c hc => ?_
    rcases h c hc with q | q
    all_goals
      subst q
      exact ⟨_, _, _, rfl, rfl, rfl⟩
  have ha : asBls (s.map fun _ => D.bl true) = some (s.map fun _ => true) := by
    have := asBls_map (s.map fun _ => true)
    rw [List.map_map] at this
    exact this
  have h1 : s.length ≤ lim := by show s.length ≤ 1000000; omega
  have h2 : ((s.length : Int) ≤ 400) := by omega
  simp [runF, runR, start0, sRet, sSeq, sIf, sSet, sSetL, sPar, sParL, sAsg, sExpr, sSetIx, sApp, sAug, sNx, sBad, sBk, sRetN, thenS, fVar, fC, fOp, fUn, fTst, fNot, fAnd, fOr, fIf, fNil, fCons, fTup, fCall, fAndV, fOrV, fChain, fIsi, fIsi2, isTy, fSl, fNoPart, fPart, fM1, fCallF, fOwnIx, fRow, fOfL, fLstL, gfN, gfT, gfC, gfNil, Out.bind, ofO, opCmp, opIx, opAdd, opSub, unNeg, unNot, opSl, bLen, bInt, m_is_bits, F_is_bits, h1, h2, hlo, fComp, fIt, itemsOf, hc, bAll, ha]
theorem is_word_ok {s t : List Nat} (h : Bt s) (k : Bt t) (hs : s.length ≤ 400) (ht : t.length ≤ 400) (hn : t ≠ []) : m_is_word [.tup [.str s, .str t]] = .ok (.bl true) := by
  have hl : 0 < t.length := List.length_pos_iff.mpr hn
  have a := is_bits_ok h hs (lo := 0) (Nat.zero_le _)
  have b := is_bits_ok k ht (lo := 1) hl
  have i0 : L2.atI [D.str s, .str t] 0 = some (.str s) := rfl
  have i1 : L2.atI [D.str s, .str t] 1 = some (.str t) := rfl
  simp at a b
  simp [runF, runR, start0, sRet, sSeq, sIf, sSet, sSetL, sPar, sParL, sAsg, sExpr, sSetIx, sApp, sAug, sNx, sBad, sBk, sRetN, thenS, fVar, fC, fOp, fUn, fTst, fNot, fAnd, fOr, fIf, fNil, fCons, fTup, fCall, fAndV, fOrV, fChain, fIsi, fIsi2, isTy, fSl, fNoPart, fPart, fM1, fCallF, fOwnIx, fRow, fOfL, fLstL, gfN, gfT, gfC, gfNil, Out.bind, ofO, opCmp, opIx, opAdd, opSub, unNeg, unNot, opSl, bLen, bInt, m_is_word, F_is_word, eqI, a, b, i0, i1]
theorem need_word_ok {s t : List Nat} (h : Bt s) (k : Bt t) (hs : s.length ≤ 400) (ht : t.length ≤ 400) (hn : t ≠ []) : m_need_word [.tup [.str s, .str t]] = .ok .non := by
  simp [runF, runR, start0, sRet, sSeq, sIf, sSet, sSetL, sPar, sParL, sAsg, sExpr, sSetIx, sApp, sAug, sNx, sBad, sBk, sRetN, thenS, fVar, fC, fOp, fUn, fTst, fNot, fAnd, fOr, fIf, fNil, fCons, fTup, fCall, fAndV, fOrV, fChain, fIsi, fIsi2, isTy, fSl, fNoPart, fPart, fM1, fCallF, fOwnIx, fRow, fOfL, fLstL, gfN, gfT, gfC, gfNil, Out.bind, ofO, opCmp, opIx, opAdd, opSub, unNeg, unNot, opSl, bLen, bInt, m_need_word, F_need_word, is_word_ok h k hs ht hn]
end Lw

namespace Lw
open PySem PySem.Spec PyProof PyProof.Rows DL ES
theorem fmodN (a b : Nat) : (a : Int).fmod (b : Int) = ((a % b : Nat) : Int) := by
  rw [Int.fmod_eq_emod_of_nonneg _ (by omega)]
  rfl
theorem fdivN (a b : Nat) : (a : Int).fdiv (b : Int) = ((a / b : Nat) : Int) := by
  rw [Int.fdiv_eq_ediv_of_nonneg _ (by omega)]
  rfl
theorem beqN (a b : Nat) : (((a : Nat) : Int) == ((b : Nat) : Int)) = (a == b) := by
  by_cases h : a = b
  · subst h
    simp
  · rw [beq_eq_false_iff_ne.mpr h, beq_eq_false_iff_ne.mpr (by omega)]
theorem beqN0 (a : Nat) : (((a : Nat) : Int) == 0) = (a == 0) := beqN a 0
theorem cut_to' {α : Type} (xs : List α) (n : Nat) : cutL xs none (some (n : Int)) = xs.take n := cut_to xs n
theorem mulI {i j : Int} (h : i.natAbs < 18446744073709551616 ∨ j.natAbs < 18446744073709551616) : opMul (.int i) (.int j) = some (.int (i * j)) := if_pos h
theorem divI {i j : Int} (h : j ≠ 0) (k : j.natAbs < 1073741824) : opDiv (.int i) (.int j) = some (.int (i.fdiv j)) := if_pos ⟨h, k⟩
theorem modI {i j : Int} (h : j ≠ 0) : opMod (.int i) (.int j) = some (.int (i.fmod j)) := if_pos h
theorem divN {i j : Nat} (h : j ≠ 0) (k : j < 1073741824) : opDiv (.int (i : Int)) (.int (j : Int)) = some (.int ((i / j : Nat) : Int)) := by
  rw [divI (by omega) (by omega), fdivN]
theorem modN {i j : Nat} (h : j ≠ 0) : opMod (.int (i : Int)) (.int (j : Int)) = some (.int ((i % j : Nat) : Int)) := by
  rw [modI (by omega), fmodN]
theorem mul_str (a : List Nat) (n : Nat) (h : a.length * n ≤ 1000000) (h2 : n ≤ 1000000) : opMul (.str a) (.int (n : Int)) = some (.str (List.replicate n a).flatten) := by
  unfold opMul
  simp only
  rw [if_pos ⟨show n ≤ 1000000 from h2, by rw [Int.toNat_natCast]; exact h⟩, Int.toNat_natCast]
def bodyS : FS := (sIf (fAnd (fTst (fOp opEq (fOp opMod (fCall bLen (fCons (fVar 0) fNil)) (fVar 1)) (fC (.int 0)))) (fTst (fOp opEq (fOp opMul (fSl (fVar 0) fNoPart (fPart (fVar 1))) (fOp opDiv (fCall bLen (fCons (fVar 0) fNil)) (fVar 1))) (fVar 0)))) (sRet (fSl (fVar 0) fNoPart (fPart (fVar 1)))) sNx)
theorem shortest_body {t : List Nat} (h : Bt t) (hl : t.length ≤ 1000) {k : Nat} (hk : 1 ≤ k) (hkt : k ≤ t.length) :
    bodyS [some (.str t), some (.int (k : Int))] = if WT.perB t k then .ret (.str (t.take k)) [some (.str t), some (.int (k : Int))] else .nx [some (.str t), some (.int (k : Int))] := by
  have h1 : t.length ≤ lim := by show t.length ≤ 1000000; omega
  have h2 : ¬ (k : Int) = 0 := by omega
  have h2' : ¬ k = 0 := by omega
  have h3 : k < 1073741824 := by omega
  have hd : t.length / k ≤ t.length := Nat.div_le_self _ _
  have hm : (t.take k).length * (t.length / k) ≤ 1000000 := by
    rw [List.length_take, Nat.min_eq_left hkt]
    have := Nat.mul_div_le t.length k
    omega
  have e1 := mul_str (t.take k) (t.length / k) hm (by omega)
  have e2 := eqS (bt_flat (bt_take h k) (t.length / k)) h
  have hm2 : t.length / k ≤ 1000000 := by omega
  unfold bodyS WT.perB
  simp only [runF, runR, start0, sRet, sSeq, sIf, sSet, sSetL, sPar, sParL, sAsg, sExpr, sSetIx, sApp, sAug, sNx, sBad, sBk, sRetN, thenS, fVar, fC, fOp, fUn, fTst, fNot, fAnd, fOr, fIf, fNil, fCons, fTup, fCall, fAndV, fOrV, fChain, fIsi, fIsi2, isTy, fSl, fNoPart, fPart, fM1, fCallF, fOwnIx, fRow, fOfL, fLstL, gfN, gfT, gfC, gfNil, Out.bind, ofO, opCmp, opIx, opAdd, opSub, unNeg, unNot, opSl, bLen, bInt, List.getElem?_cons_zero, List.getElem?_cons_succ, List.getElem?_nil, List.set_cons_zero, List.set_cons_succ, List.map_cons, List.map_nil, List.length_cons, List.length_nil, List.replicate_succ, List.replicate_zero, List.cons_append, List.nil_append, List.append_nil, if_true, if_false, ite_true, ite_false, reduceIte, Nat.reduceAdd, Nat.reduceSub, Nat.reduceLeDiff, Bool.not_true, Bool.not_false, Bool.false_eq_true, decide_true, decide_false, Option.map_some, Option.bind_some, Nat.zero_add, Nat.le_refl, String.reduceBEq, Bool.or_false, Bool.or_self, Bool.or_true, Bool.false_or, Bool.true_or, h1, if_pos h1, modN h2', divN h2' h3, eqI, beqN0, cut_to, mul_str _ _ hm hm2, eqS (bt_flat (bt_take h k) (t.length / k)) h]
  cases q : (t.length % k == 0) with
  | false => simp only [runF, runR, start0, sRet, sSeq, sIf, sSet, sSetL, sPar, sParL, sAsg, sExpr, sSetIx, sApp, sAug, sNx, sBad, sBk, sRetN, thenS, fVar, fC, fOp, fUn, fTst, fNot, fAnd, fOr, fIf, fNil, fCons, fTup, fCall, fAndV, fOrV, fChain, fIsi, fIsi2, isTy, fSl, fNoPart, fPart, fM1, fCallF, fOwnIx, fRow, fOfL, fLstL, gfN, gfT, gfC, gfNil, Out.bind, ofO, opCmp, opIx, opAdd, opSub, unNeg, unNot, opSl, bLen, bInt, List.getElem?_cons_zero, List.getElem?_cons_succ, List.getElem?_nil, List.set_cons_zero, List.set_cons_succ, List.map_cons, List.map_nil, List.length_cons, List.length_nil, List.replicate_succ, List.replicate_zero, List.cons_append, List.nil_append, List.append_nil, if_true, if_false, ite_true, ite_false, reduceIte, Nat.reduceAdd, Nat.reduceSub, Nat.reduceLeDiff, Bool.not_true, Bool.not_false, Bool.false_eq_true, decide_true, decide_false, Option.map_some, Option.bind_some, Nat.zero_add, Nat.le_refl, String.reduceBEq, Bool.or_false, Bool.or_self, Bool.or_true, Bool.false_or, Bool.true_or, Bool.false_and]
  | true =>
    cases q3 : ((List.replicate (t.length / k) (List.take k t)).flatten == t) with
    | false => simp only [runF, runR, start0, sRet, sSeq, sIf, sSet, sSetL, sPar, sParL, sAsg, sExpr, sSetIx, sApp, sAug, sNx, sBad, sBk, sRetN, thenS, fVar, fC, fOp, fUn, fTst, fNot, fAnd, fOr, fIf, fNil, fCons, fTup, fCall, fAndV, fOrV, fChain, fIsi, fIsi2, isTy, fSl, fNoPart, fPart, fM1, fCallF, fOwnIx, fRow, fOfL, fLstL, gfN, gfT, gfC, gfNil, Out.bind, ofO, opCmp, opIx, opAdd, opSub, unNeg, unNot, opSl, bLen, bInt, List.getElem?_cons_zero, List.getElem?_cons_succ, List.getElem?_nil, List.set_cons_zero, List.set_cons_succ, List.map_cons, List.map_nil, List.length_cons, List.length_nil, List.replicate_succ, List.replicate_zero, List.cons_append, List.nil_append, List.append_nil, if_true, if_false, ite_true, ite_false, reduceIte, Nat.reduceAdd, Nat.reduceSub, Nat.reduceLeDiff, Bool.not_true, Bool.not_false, Bool.false_eq_true, decide_true, decide_false, Option.map_some, Option.bind_some, Nat.zero_add, Nat.le_refl, String.reduceBEq, Bool.or_false, Bool.or_self, Bool.or_true, Bool.false_or, Bool.true_or, Bool.true_and, q3, cut_to, h1, modN h2', divN h2' h3, mul_str _ _ hm hm2, eqS (bt_flat (bt_take h k) (t.length / k)) h]
    | true => simp only [runF, runR, start0, sRet, sSeq, sIf, sSet, sSetL, sPar, sParL, sAsg, sExpr, sSetIx, sApp, sAug, sNx, sBad, sBk, sRetN, thenS, fVar, fC, fOp, fUn, fTst, fNot, fAnd, fOr, fIf, fNil, fCons, fTup, fCall, fAndV, fOrV, fChain, fIsi, fIsi2, isTy, fSl, fNoPart, fPart, fM1, fCallF, fOwnIx, fRow, fOfL, fLstL, gfN, gfT, gfC, gfNil, Out.bind, ofO, opCmp, opIx, opAdd, opSub, unNeg, unNot, opSl, bLen, bInt, List.getElem?_cons_zero, List.getElem?_cons_succ, List.getElem?_nil, List.set_cons_zero, List.set_cons_succ, List.map_cons, List.map_nil, List.length_cons, List.length_nil, List.replicate_succ, List.replicate_zero, List.cons_append, List.nil_append, List.append_nil, if_true, if_false, ite_true, ite_false, reduceIte, Nat.reduceAdd, Nat.reduceSub, Nat.reduceLeDiff, Bool.not_true, Bool.not_false, Bool.false_eq_true, decide_true, decide_false, Option.map_some, Option.bind_some, Nat.zero_add, Nat.le_refl, String.reduceBEq, Bool.or_false, Bool.or_self, Bool.or_true, Bool.false_or, Bool.true_or, Bool.true_and, q3, cut_to, h1, if_pos h1, modN h2', divN h2' h3, mul_str _ _ hm hm2, eqS (bt_flat (bt_take h k) (t.length / k)) h]
theorem shortest_loop {t : List Nat} (h : Bt t) (hl : t.length ≤ 1000) : ∀ (n a : Nat) (x : Option D), 1 ≤ a → a + n ≤ t.length + 1 → ∃ y, loopF (gfN 1) bodyS (numD (a : Int) n) [some (.str t), x] = match (List.range' a n).find? (WT.perB t) with
    | some k => .ret (.str (t.take k)) [some (.str t), some (.int (k : Int))]
    | none => .nx [some (.str t), y]
  | 0, a, x, _, _ => ⟨x, rfl⟩
  | n + 1, a, x, h1, h2 => by
    have hb := shortest_body h hl (k := a) h1 (by omega)
    rw [List.range'_succ, List.find?_cons]
    show ∃ y, loopF (gfN 1) bodyS (.int (a : Int) :: numD ((a : Int) + 1) n) _ = _
    unfold loopF
    have e : gfN 1 (.int (a : Int)) [some (.str t), x] = some [some (.str t), some (.int (a : Int))] := rfl
    simp only [e]
    rw [hb]
    cases hp : WT.perB t a with
    | true => exact ⟨x, rfl⟩
    | false =>
      obtain ⟨y, hy⟩ := shortest_loop h hl n (a + 1) (some (.int (a : Int))) (by omega) (by omega)
      exact ⟨y, hy⟩
theorem shortest_ok {t : List Nat} (h : Bt t) (hl : t.length ≤ 1000) (hn : t ≠ []) : m_shortest [.str t] = .ok (.str (WT.shortestL t)) := by
  obtain ⟨y, hy⟩ := shortest_loop h hl t.length 1 none (by omega) (by omega)
  have h1 : t.length ≤ lim := by show t.length ≤ 1000000; omega
  have e1 : F_shortest [some (.str t), none] = .ret (.str (WT.shortestL t)) [some (.str t), some (.int (WT.firstPer t))] := by
    have e2 : fRng2 (fC (.int 1)) (fOp opAdd (fCall bLen (fCons (fVar 0) fNil)) (fC (.int 1))) [some (.str t), none] = .ok (numD 1 t.length) [some (.str t), none] := by
      have h2 : (1 : Int).natAbs ≤ lim ∧ ((t.length : Int) + 1).natAbs ≤ lim := ⟨show 1 ≤ 1000000 by omega, show t.length + 1 ≤ 1000000 by omega⟩
      have h3 : ((t.length : Int) + 1 - 1).toNat = t.length := by omega
      simp only [runF, runR, start0, sRet, sSeq, sIf, sSet, sSetL, sPar, sParL, sAsg, sExpr, sSetIx, sApp, sAug, sNx, sBad, sBk, sRetN, thenS, fVar, fC, fOp, fUn, fTst, fNot, fAnd, fOr, fIf, fNil, fCons, fTup, fCall, fAndV, fOrV, fChain, fIsi, fIsi2, isTy, fSl, fNoPart, fPart, fM1, fCallF, fOwnIx, fRow, fOfL, fLstL, gfN, gfT, gfC, gfNil, Out.bind, ofO, opCmp, opIx, opAdd, opSub, unNeg, unNot, opSl, bLen, bInt, List.getElem?_cons_zero, List.getElem?_cons_succ, List.getElem?_nil, List.set_cons_zero, List.set_cons_succ, List.map_cons, List.map_nil, List.length_cons, List.length_nil, List.replicate_succ, List.replicate_zero, List.cons_append, List.nil_append, List.append_nil, if_true, if_false, ite_true, ite_false, reduceIte, Nat.reduceAdd, Nat.reduceSub, Nat.reduceLeDiff, Bool.not_true, Bool.not_false, Bool.false_eq_true, decide_true, decide_false, Option.map_some, Option.bind_some, Nat.zero_add, Nat.le_refl, String.reduceBEq, Bool.or_false, Bool.or_self, Bool.or_true, Bool.false_or, Bool.true_or, fRng2, if_pos h1, if_pos h2, h3]
    unfold F_shortest
    show sSeq (sFor _ _ bodyS) _ _ = _
    unfold sSeq sFor thenS
    rw [e2]
    simp only
    rw [show ((1 : Int)) = ((1 : Nat) : Int) from rfl, hy]
    cases hf : (List.range' 1 t.length).find? (WT.perB t) with
    | none =>
      have := List.find?_eq_none.mp hf t.length (by rw [List.mem_range'_1]; have := List.length_pos_iff.mpr hn; omega)
      exact (this (WT.perB_full hn)).elim
    | some k =>
      unfold WT.shortestL WT.firstPer
      rw [hf]
      rfl
  exact runF_ret e1
/-! normal_of -/
theorem shl {t : List Nat} (h : t ≠ []) : (WT.shortestL t).length ≤ t.length := by
  rw [WT.shortest_len h]
  exact (WT.firstPer_spec h).2.1
theorem bt_shortest {t : List Nat} (h : Bt t) : Bt (WT.shortestL t) := bt_take h _
def bodyN : FS := (sPar 1 2 (fSl (fVar 1) fNoPart (fPart (fUn unNeg (fC (.int 1))))) (fOp opAdd (fOp opIx (fVar 2) (fUn unNeg (fC (.int 1)))) (fSl (fVar 2) fNoPart (fPart (fUn unNeg (fC (.int 1)))))))
def condN : FT := (fAnd (fTst (fOp opNe (fVar 1) (fC (.str [])))) (fTst (fOp opEq (fOp opIx (fVar 1) (fUn unNeg (fC (.int 1)))) (fOp opIx (fVar 2) (fUn unNeg (fC (.int 1)))))))
theorem turn_bt {t : List Nat} {c : Nat} (h : Bt t) (e : t.getLast? = some c) : Bt (c :: t.dropLast) := fun x hx => by
  rcases List.mem_cons.mp hx with q | q
  · rw [q]
    exact h c (List.mem_of_getLast? e)
  · exact h x (List.dropLast_subset _ q)
theorem turn_len {t : List Nat} {c : Nat} (e : t.getLast? = some c) : (c :: t.dropLast).length = t.length := by
  conv => rhs; rw [WT.last_split e]
  simp
theorem loop_N (w0 : D) : ∀ (n : Nat) (s t : List Nat) (fu : Nat), s.length = n → Bt s → Bt t → s.length ≤ 1000 → t.length ≤ 1000 → t ≠ [] → n < fu → whileF condN bodyN fu [some w0, some (.str s), some (.str t)] = .nx [some w0, some (.str (WT.turnL n s t).1), some (.str (WT.turnL n s t).2)] := by
  intro n
  induction n with
  | zero =>
    intro s t fu hs bs bt ls lt hn hf
    have : s = [] := List.length_eq_zero_iff.mp hs
    subst this
    obtain ⟨fu, rfl⟩ : ∃ k, fu = k + 1 := ⟨fu - 1, by omega⟩
    unfold whileF condN
    simp only [runF, runR, start0, sRet, sSeq, sIf, sSet, sSetL, sPar, sParL, sAsg, sExpr, sSetIx, sApp, sAug, sNx, sBad, sBk, sRetN, thenS, fVar, fC, fOp, fUn, fTst, fNot, fAnd, fOr, fIf, fNil, fCons, fTup, fCall, fAndV, fOrV, fChain, fIsi, fIsi2, isTy, fSl, fNoPart, fPart, fM1, fCallF, fOwnIx, fRow, fOfL, fLstL, gfN, gfT, gfC, gfNil, Out.bind, ofO, opCmp, opIx, opAdd, opSub, unNeg, unNot, opSl, bLen, bInt, List.getElem?_cons_zero, List.getElem?_cons_succ, List.getElem?_nil, List.set_cons_zero, List.set_cons_succ, List.map_cons, List.map_nil, List.length_cons, List.length_nil, List.replicate_succ, List.replicate_zero, List.cons_append, List.nil_append, List.append_nil, if_true, if_false, ite_true, ite_false, reduceIte, Nat.reduceAdd, Nat.reduceSub, Nat.reduceLeDiff, Bool.not_true, Bool.not_false, Bool.false_eq_true, decide_true, decide_false, Option.map_some, Option.bind_some, Nat.zero_add, Nat.le_refl, String.reduceBEq, Bool.or_false, Bool.or_self, Bool.or_true, Bool.false_or, Bool.true_or, neS bt_nil bt_nil]
    rfl
  | succ n ih =>
    intro s t fu hs bs bt ls lt hn hf
    obtain ⟨fu, rfl⟩ : ∃ k, fu = k + 1 := ⟨fu - 1, by omega⟩
    have hsn : s ≠ [] := by
      intro z
      rw [z] at hs
      simp at hs
    have h1 : s.length ≤ lim := by show s.length ≤ 1000000; omega
    have h2 : t.length ≤ lim := by show t.length ≤ 1000000; omega
    obtain ⟨c, hc⟩ : ∃ c, s.getLast? = some c := ⟨_, WT.getLast_getD hsn⟩
    obtain ⟨d, hd⟩ : ∃ c, t.getLast? = some c := ⟨_, WT.getLast_getD hn⟩
    have e0 : (s == []) = false := beq_eq_false_iff_ne.mpr hsn
    have bc : Bt [c] := fun x hx => by
      rw [List.mem_singleton.mp hx]
      exact bs c (List.mem_of_getLast? hc)
    have bd : Bt [d] := fun x hx => by
      rw [List.mem_singleton.mp hx]
      exact bt d (List.mem_of_getLast? hd)
    have e1 : ([c] == [d]) = (c == d) := by simp
    have hcond : condN [some w0, some (.str s), some (.str t)] = .ok (c == d) [some w0, some (.str s), some (.str t)] := by
      unfold condN
      simp only [runF, runR, start0, sRet, sSeq, sIf, sSet, sSetL, sPar, sParL, sAsg, sExpr, sSetIx, sApp, sAug, sNx, sBad, sBk, sRetN, thenS, fVar, fC, fOp, fUn, fTst, fNot, fAnd, fOr, fIf, fNil, fCons, fTup, fCall, fAndV, fOrV, fChain, fIsi, fIsi2, isTy, fSl, fNoPart, fPart, fM1, fCallF, fOwnIx, fRow, fOfL, fLstL, gfN, gfT, gfC, gfNil, Out.bind, ofO, opCmp, opIx, opAdd, opSub, unNeg, unNot, opSl, bLen, bInt, List.getElem?_cons_zero, List.getElem?_cons_succ, List.getElem?_nil, List.set_cons_zero, List.set_cons_succ, List.map_cons, List.map_nil, List.length_cons, List.length_nil, List.replicate_succ, List.replicate_zero, List.cons_append, List.nil_append, List.append_nil, if_true, if_false, ite_true, ite_false, reduceIte, Nat.reduceAdd, Nat.reduceSub, Nat.reduceLeDiff, Bool.not_true, Bool.not_false, Bool.false_eq_true, decide_true, decide_false, Option.map_some, Option.bind_some, Nat.zero_add, Nat.le_refl, String.reduceBEq, Bool.or_false, Bool.or_self, Bool.or_true, Bool.false_or, Bool.true_or, neS bs bt_nil, e0, if_pos h1, if_pos h2, ix_last hsn, ix_last hn, hc, hd, eqS bc bd, e1]
    unfold whileF
    rw [hcond]
    unfold WT.turnL
    rw [hc, hd]
    by_cases q : c = d
    · subst q
      have hbody : bodyN [some w0, some (.str s), some (.str t)] = .nx [some w0, some (.str s.dropLast), some (.str (c :: t.dropLast))] := by
        have l3 : 1 + t.dropLast.length ≤ lim := by show 1 + t.dropLast.length ≤ 1000000; rw [List.length_dropLast]; omega
        unfold bodyN
        simp only [runF, runR, start0, sRet, sSeq, sIf, sSet, sSetL, sPar, sParL, sAsg, sExpr, sSetIx, sApp, sAug, sNx, sBad, sBk, sRetN, thenS, fVar, fC, fOp, fUn, fTst, fNot, fAnd, fOr, fIf, fNil, fCons, fTup, fCall, fAndV, fOrV, fChain, fIsi, fIsi2, isTy, fSl, fNoPart, fPart, fM1, fCallF, fOwnIx, fRow, fOfL, fLstL, gfN, gfT, gfC, gfNil, Out.bind, ofO, opCmp, opIx, opAdd, opSub, unNeg, unNot, opSl, bLen, bInt, List.getElem?_cons_zero, List.getElem?_cons_succ, List.getElem?_nil, List.set_cons_zero, List.set_cons_succ, List.map_cons, List.map_nil, List.length_cons, List.length_nil, List.replicate_succ, List.replicate_zero, List.cons_append, List.nil_append, List.append_nil, if_true, if_false, ite_true, ite_false, reduceIte, Nat.reduceAdd, Nat.reduceSub, Nat.reduceLeDiff, Bool.not_true, Bool.not_false, Bool.false_eq_true, decide_true, decide_false, Option.map_some, Option.bind_some, Nat.zero_add, Nat.le_refl, String.reduceBEq, Bool.or_false, Bool.or_self, Bool.or_true, Bool.false_or, Bool.true_or, if_pos h1, if_pos h2, ix_last hn, hd, cut_most, if_pos l3]
      simp only [thenS, beq_self_eq_true, if_true, hbody]
      exact ih s.dropLast (c :: t.dropLast) fu (by rw [List.length_dropLast]; omega) (fun x hx => bs x (List.dropLast_subset _ hx)) (turn_bt bt hd) (by rw [List.length_dropLast]; omega) (by rw [turn_len hd]; exact lt) (by simp) (by omega)
    · have q' : (c == d) = false := beq_eq_false_iff_ne.mpr q
      simp only [thenS, q', if_neg q]
      rfl
theorem normal_of_ok {s t : List Nat} (bs : Bt s) (bt : Bt t) (ls : s.length ≤ 1000) (lt : t.length ≤ 1000) (hn : t ≠ []) : m_normal_of [.tup [.str s, .str t]] = .ok (.tup [.str (WT.normL s t).1, .str (WT.normL s t).2]) := by
  have i0 : L2.atI [D.str s, .str t] 0 = some (.str s) := rfl
  have i1 : L2.atI [D.str s, .str t] 1 = some (.str t) := rfl
  have hw := loop_N (.tup [.str s, .str t]) s.length s (WT.shortestL t) fuel rfl bs (bt_shortest bt) ls (Nat.le_trans (shl hn) lt) (WT.shortest_ne hn) (by show s.length < 1000000; omega)
  have e1 : F_normal_of [some (.tup [.str s, .str t]), none, none] = .ret (.tup [.str (WT.normL s t).1, .str (WT.normL s t).2]) [some (.tup [.str s, .str t]), some (.str (WT.normL s t).1), some (.str (WT.normL s t).2)] := by
    unfold F_normal_of
    show sSeq _ (sSeq (sWhile condN bodyN) _) _ = _
    simp only [runF, runR, start0, sRet, sSeq, sIf, sSet, sSetL, sPar, sParL, sAsg, sExpr, sSetIx, sApp, sAug, sNx, sBad, sBk, sRetN, thenS, fVar, fC, fOp, fUn, fTst, fNot, fAnd, fOr, fIf, fNil, fCons, fTup, fCall, fAndV, fOrV, fChain, fIsi, fIsi2, isTy, fSl, fNoPart, fPart, fM1, fCallF, fOwnIx, fRow, fOfL, fLstL, gfN, gfT, gfC, gfNil, Out.bind, ofO, opCmp, opIx, opAdd, opSub, unNeg, unNot, opSl, bLen, bInt, List.getElem?_cons_zero, List.getElem?_cons_succ, List.getElem?_nil, List.set_cons_zero, List.set_cons_succ, List.map_cons, List.map_nil, List.length_cons, List.length_nil, List.replicate_succ, List.replicate_zero, List.cons_append, List.nil_append, List.append_nil, if_true, if_false, ite_true, ite_false, reduceIte, Nat.reduceAdd, Nat.reduceSub, Nat.reduceLeDiff, Bool.not_true, Bool.not_false, Bool.false_eq_true, decide_true, decide_false, Option.map_some, Option.bind_some, Nat.zero_add, Nat.le_refl, String.reduceBEq, Bool.or_false, Bool.or_self, Bool.or_true, Bool.false_or, Bool.true_or, i0, i1, shortest_ok bt lt hn, sWhile, hw]
    rfl
  exact runF_ret e1
end Lw

namespace Lw
open PySem PySem.Spec PyProof PyProof.Rows DL ES
abbrev wd (s t : List Nat) : D := .tup [.str s, .str t]
theorem i0 (a b : D) : L2.atI [a, b] 0 = some a := rfl
theorem i1 (a b : D) : L2.atI [a, b] 1 = some b := rfl
theorem limS {n : Nat} (h : n ≤ 1000000) : n ≤ lim := h
theorem decN (a b : Nat) : decide (((a : Nat) : Int) ≤ ((b : Nat) : Int)) = decide (a ≤ b) := by
  by_cases h : a ≤ b
  · rw [decide_eq_true h, decide_eq_true (by omega)]
  · rw [decide_eq_false h, decide_eq_false (by omega)]
structure Wd (s t : List Nat) (n : Nat) : Prop where
  bs : Bt s
  bt : Bt t
  ls : s.length ≤ n
  lt : t.length ≤ n
  ne : t ≠ []
theorem Wd.pos {s t : List Nat} {n : Nat} (h : Wd s t n) : 0 < t.length := List.length_pos_iff.mpr h.ne
theorem Wd.up {s t : List Nat} {n m : Nat} (h : Wd s t n) (k : n ≤ m) : Wd s t m := ⟨h.bs, h.bt, Nat.le_trans h.ls k, Nat.le_trans h.lt k, h.ne⟩
theorem Wd.norm {s t : List Nat} {n : Nat} (h : Wd s t n) : Wd (WT.normL s t).1 (WT.normL s t).2 n := by
  have a := WT.normL_spec (s := s) h.ne
  exact ⟨fun c hc => h.bs c (a.ms c hc), fun c hc => h.bt c (a.mt c hc), Nat.le_trans a.ls h.ls, Nat.le_trans a.lt h.lt, a.ne⟩
theorem need_word_wd {s t : List Nat} (h : Wd s t 400) : m_need_word [wd s t] = .ok .non := need_word_ok h.bs h.bt h.ls h.lt h.ne
theorem normal_of_wd {s t : List Nat} (h : Wd s t 1000) : m_normal_of [wd s t] = .ok (wd (WT.normL s t).1 (WT.normL s t).2) := normal_of_ok h.bs h.bt h.ls h.lt h.ne
theorem made_wd {s t : List Nat} (h : Wd s t 1000) (h1 : (WT.normL s t).1.length ≤ 400) (h2 : (WT.normL s t).2.length ≤ 400) : m_made [.str s, .str t] = .ok (wd (WT.normL s t).1 (WT.normL s t).2) := by
  have e := normal_of_wd h
  generalize (WT.normL s t).1 = a at *
  generalize (WT.normL s t).2 = b at *
  refine runF_ret (r := [some (.str s), some (.str t), some (wd a b)]) ?_
  show F_made [some (.str s), some (.str t), none] = _
  unfold F_made
  have k1 : ¬ (400 : Int) < (a.length : Int) := by omega
  have k2 : ¬ (400 : Int) < (b.length : Int) := by omega
  have l2 : 2 ≤ lim := limS (by decide)
  simp only [runF, runR, start0, sRet, sSeq, sIf, sSet, sSetL, sPar, sParL, sAsg, sExpr, sSetIx, sApp, sAug, sNx, sBad, sBk, sRetN, thenS, fVar, fC, fOp, fUn, fTst, fNot, fAnd, fOr, fIf, fNil, fCons, fTup, fCall, fAndV, fOrV, fChain, fIsi, fIsi2, isTy, fSl, fNoPart, fPart, fM1, fCallF, fOwnIx, fRow, fOfL, fLstL, gfN, gfT, gfC, gfNil, Out.bind, ofO, opCmp, opIx, opAdd, opSub, unNeg, unNot, opSl, bLen, bInt, List.getElem?_cons_zero, List.getElem?_cons_succ, List.getElem?_nil, List.set_cons_zero, List.set_cons_succ, List.map_cons, List.map_nil, List.length_cons, List.length_nil, List.replicate_succ, List.replicate_zero, List.cons_append, List.nil_append, List.append_nil, if_true, if_false, ite_true, ite_false, reduceIte, Nat.reduceAdd, Nat.reduceSub, Nat.reduceLeDiff, Bool.not_true, Bool.not_false, Bool.false_eq_true, decide_true, decide_false, Option.map_some, Option.bind_some, Nat.zero_add, Nat.le_refl, String.reduceBEq, Bool.or_false, Bool.or_self, Bool.or_true, Bool.false_or, Bool.true_or, e, i0, i1, if_pos (limS (show a.length ≤ 1000000 by omega)), if_pos (limS (show b.length ≤ 1000000 by omega)), decide_eq_false k1, decide_eq_false k2, if_pos l2]
theorem countS (s : List Nat) : bCount [.str s, .str [49]] = some (.int ((s.count 49 : Nat) : Int)) := rfl
theorem ones_of_wd {s t : List Nat} (h : Wd s t 1000) (n : Nat) (hn : n ≤ 2000000000) : m_ones_of [wd s t, .int (n : Int)] = .ok (.int ((WT.onesF s t n : Nat) : Int)) := by
  have hp := h.pos
  have ls := h.ls
  have lt := h.lt
  have l1 : s.length ≤ lim := limS (by omega)
  have l2 : t.length ≤ lim := limS (by omega)
  unfold WT.onesF
  by_cases q : n ≤ s.length
  · refine runF_ret (r := [some (wd s t), some (.int (n : Int)), some (.str s), some (.str t), none]) ?_
    show F_ones_of [some (wd s t), some (.int (n : Int)), none, none, none] = _
    unfold F_ones_of
    have e1 : bMax2 [.int 0, .int (n : Int)] = some (.int (n : Int)) := by
      unfold bMax2
      simp only
      split
      · rfl
      · congr 2
        omega
    simp only [runF, runR, start0, sRet, sSeq, sIf, sSet, sSetL, sPar, sParL, sAsg, sExpr, sSetIx, sApp, sAug, sNx, sBad, sBk, sRetN, thenS, fVar, fC, fOp, fUn, fTst, fNot, fAnd, fOr, fIf, fNil, fCons, fTup, fCall, fAndV, fOrV, fChain, fIsi, fIsi2, isTy, fSl, fNoPart, fPart, fM1, fCallF, fOwnIx, fRow, fOfL, fLstL, gfN, gfT, gfC, gfNil, Out.bind, ofO, opCmp, opIx, opAdd, opSub, unNeg, unNot, opSl, bLen, bInt, List.getElem?_cons_zero, List.getElem?_cons_succ, List.getElem?_nil, List.set_cons_zero, List.set_cons_succ, List.map_cons, List.map_nil, List.length_cons, List.length_nil, List.replicate_succ, List.replicate_zero, List.cons_append, List.nil_append, List.append_nil, if_true, if_false, ite_true, ite_false, reduceIte, Nat.reduceAdd, Nat.reduceSub, Nat.reduceLeDiff, Bool.not_true, Bool.not_false, Bool.false_eq_true, decide_true, decide_false, Option.map_some, Option.bind_some, Nat.zero_add, Nat.le_refl, String.reduceBEq, Bool.or_false, Bool.or_self, Bool.or_true, Bool.false_or, Bool.true_or, if_pos l1, decN, decide_eq_true q, e1, cut_to, countS, if_pos q]
  · refine runF_ret (r := [some (wd s t), some (.int (n : Int)), some (.str s), some (.str t), some (.int ((n - s.length : Nat) : Int))]) ?_
    show F_ones_of [some (wd s t), some (.int (n : Int)), none, none, none] = _
    unfold F_ones_of
    have e4 : (n : Int) - (s.length : Int) = ((n - s.length : Nat) : Int) := by omega
    have hc : t.count 49 ≤ t.length := List.count_le_length
    have hm : opMul (.int (((n - s.length) / t.length : Nat) : Int)) (.int ((t.count 49 : Nat) : Int)) = some (.int (((n - s.length) / t.length * t.count 49 : Nat) : Int)) := by
      rw [mulI (.inr (by omega))]
      exact congrArg (fun z => some (D.int z)) (Int.natCast_mul _ _).symm
    have e5 : ∀ a b c : Nat, ((a : Nat) : Int) + ((b : Nat) : Int) + ((c : Nat) : Int) = ((a + b + c : Nat) : Int) := fun a b c => by omega
    simp only [runF, runR, start0, sRet, sSeq, sIf, sSet, sSetL, sPar, sParL, sAsg, sExpr, sSetIx, sApp, sAug, sNx, sBad, sBk, sRetN, thenS, fVar, fC, fOp, fUn, fTst, fNot, fAnd, fOr, fIf, fNil, fCons, fTup, fCall, fAndV, fOrV, fChain, fIsi, fIsi2, isTy, fSl, fNoPart, fPart, fM1, fCallF, fOwnIx, fRow, fOfL, fLstL, gfN, gfT, gfC, gfNil, Out.bind, ofO, opCmp, opIx, opAdd, opSub, unNeg, unNot, opSl, bLen, bInt, List.getElem?_cons_zero, List.getElem?_cons_succ, List.getElem?_nil, List.set_cons_zero, List.set_cons_succ, List.map_cons, List.map_nil, List.length_cons, List.length_nil, List.replicate_succ, List.replicate_zero, List.cons_append, List.nil_append, List.append_nil, if_true, if_false, ite_true, ite_false, reduceIte, Nat.reduceAdd, Nat.reduceSub, Nat.reduceLeDiff, Bool.not_true, Bool.not_false, Bool.false_eq_true, decide_true, decide_false, Option.map_some, Option.bind_some, Nat.zero_add, Nat.le_refl, String.reduceBEq, Bool.or_false, Bool.or_self, Bool.or_true, Bool.false_or, Bool.true_or, if_pos l1, if_pos l2, decN, decide_eq_false q, e4, modN (show t.length ≠ 0 by omega), divN (show t.length ≠ 0 by omega) (show t.length < 1073741824 by omega), cut_to, countS, hm, e5, if_neg q]
theorem enD_spots : ∀ (l : List Nat) (a : Nat), ((List.range l.length).map fun i => D.tup [.int ((a + i : Nat) : Int), .str [l.getD i 0]]) = enD a (l.map fun c => .str [c])
  | [], a => rfl
  | c :: l, a => by
    rw [List.length_cons, List.range_succ_eq_map, List.map_cons, List.map_map]
    show _ :: _ = D.tup [.int (a : Nat), .str [c]] :: enD (a + 1) (l.map fun c => .str [c])
    rw [← enD_spots l (a + 1)]
    refine congr (congrArg _ ?_) (List.map_congr_left fun i _ => ?_)
    · simp
    · show D.tup [.int ((a + (i + 1) : Nat) : Int), .str [(c :: l).getD (i + 1) 0]] = _
      rw [show a + (i + 1) = a + 1 + i by omega]
      simp
theorem spots_filter : ∀ (l : List Nat) (a : Nat), (((List.range l.length).filter fun i => l.getD i 0 == 49).map fun i => a + i + 1) = WT.spotsFrom a l
  | [], a => rfl
  | c :: l, a => by
    have ih := spots_filter l (a + 1)
    rw [List.length_cons, List.range_succ_eq_map, List.filter_cons, List.filter_map]
    have e1 : ((fun i => (c :: l).getD i 0 == 49) ∘ Nat.succ) = fun i => l.getD i 0 == 49 := by
      funext i
      simp
    have e2 : ((List.range l.length).filter fun i => l.getD i 0 == 49).map ((fun i => a + i + 1) ∘ Nat.succ) = WT.spotsFrom (a + 1) l := by
      rw [← ih]
      refine List.map_congr_left fun i _ => ?_
      show a + (i + 1) + 1 = a + 1 + i + 1
      omega
    unfold WT.spotsFrom
    rw [e1]
    have e3 : (c :: l).getD 0 0 = c := rfl
    rw [e3]
    by_cases hc : c = 49
    · subst hc
      rw [if_pos (by simp), if_pos rfl, List.map_cons, List.map_map, e2]
    · have : (c == 49) = false := beq_eq_false_iff_ne.mpr hc
      rw [this, if_neg (by decide), if_neg hc, List.map_map, e2]
theorem spots_ev {l : List Nat} (h : Bt l) (hl : l.length ≤ 1000) {i : Nat} {ρ : Rho} (hi : i < ρ.length) (hv : ρ[i]? = some (some (.str l))) {a b : Nat} (ha : a < ρ.length) (hb : b < ρ.length) (hab : a ≠ b) :
    fComp [a, b] (fEnum (fVar i)) (gfT 2 (gfC (gfN a) (gfC (gfN b) gfNil))) (fTst (fOp opEq (fVar b) (fC (.str [49])))) (fOp opAdd (fVar a) (fC (.int 1))) ρ = .ok ((WT.spotsL l).map fun p => .int ((p : Nat) : Int)) ρ := by
  have e0 : fEnum (fVar i) ρ = .ok (enD 0 (l.map fun c => .str [c])) ρ := by
    simp [runF, runR, start0, sRet, sSeq, sIf, sSet, sSetL, sPar, sParL, sAsg, sExpr, sSetIx, sApp, sAug, sNx, sBad, sBk, sRetN, thenS, fVar, fC, fOp, fUn, fTst, fNot, fAnd, fOr, fIf, fNil, fCons, fTup, fCall, fAndV, fOrV, fChain, fIsi, fIsi2, isTy, fSl, fNoPart, fPart, fM1, fCallF, fOwnIx, fRow, fOfL, fLstL, gfN, gfT, gfC, gfNil, Out.bind, ofO, opCmp, opIx, opAdd, opSub, unNeg, unNot, opSl, bLen, bInt, fEnum, hv, itemsEn]
  unfold fComp
  rw [e0, Out.bind_ok, if_pos (by rw [enD_len, List.length_map]; exact limS (by omega)), ← enD_spots l 0]
  have key := compP_filter (tgt := gfT 2 (gfC (gfN a) (gfC (gfN b) gfNil))) (c := fTst (fOp opEq (fVar b) (fC (.str [49])))) (f := fOp opAdd (fVar a) (fC (.int 1))) (ρ0 := wipeR ρ [a, b]) (g := fun i => D.tup [.int ((0 + i : Nat) : Int), .str [l.getD i 0]]) (h := fun i => D.int ((i + 1 : Nat) : Int)) (p := fun i => l.getD i 0 == 49) (List.range l.length) ?_
  · rw [key]
    have e1 : WT.spotsL l = (((List.range l.length).filter fun i => l.getD i 0 == 49).map fun i => 0 + i + 1) := (spots_filter l 0).symm
    rw [e1, List.map_map]
    refine congrArg (fun z => Out.ok z ρ) (List.map_congr_left fun i _ => ?_)
    show D.int ((i + 1 : Nat) : Int) = D.int ((0 + i + 1 : Nat) : Int)
    rw [Nat.zero_add]
  · intro j hj
    have hj := List.mem_range.mp hj
    have bj : Bt [l.getD j 0] := fun c hc => by
      rw [List.mem_singleton.mp hc]
      exact bt_getD h hj
    have b2 : Bt [49] := fun c hc => .inr (List.mem_singleton.mp hc)
    have e3 : ([l.getD j 0] == [49]) = (l.getD j 0 == 49) := by simp
    have lw : (wipeR ρ [a, b]).length = ρ.length := wipeR_length ρ _
    generalize wipeR ρ [a, b] = ρ0 at *
    refine ⟨(ρ0.set a (some (.int ((0 + j : Nat) : Int)))).set b (some (.str [l.getD j 0])), (ρ0.set a (some (.int ((0 + j : Nat) : Int)))).set b (some (.str [l.getD j 0])), rfl, ?_, fun _ => ⟨(ρ0.set a (some (.int ((0 + j : Nat) : Int)))).set b (some (.str [l.getD j 0])), ?_⟩⟩
    · have g1 : ((ρ0.set a (some (.int ((0 + j : Nat) : Int)))).set b (some (.str [l.getD j 0])))[b]? = some (some (.str [l.getD j 0])) := List.getElem?_set_self (by rw [List.length_set]; omega)
      generalize (ρ0.set a (some (.int ((0 + j : Nat) : Int)))).set b (some (.str [l.getD j 0])) = ρ1 at *
      simp only [runF, runR, start0, sRet, sSeq, sIf, sSet, sSetL, sPar, sParL, sAsg, sExpr, sSetIx, sApp, sAug, sNx, sBad, sBk, sRetN, thenS, fVar, fC, fOp, fUn, fTst, fNot, fAnd, fOr, fIf, fNil, fCons, fTup, fCall, fAndV, fOrV, fChain, fIsi, fIsi2, isTy, fSl, fNoPart, fPart, fM1, fCallF, fOwnIx, fRow, fOfL, fLstL, gfN, gfT, gfC, gfNil, Out.bind, ofO, opCmp, opIx, opAdd, opSub, unNeg, unNot, opSl, bLen, bInt, List.getElem?_cons_zero, List.getElem?_cons_succ, List.getElem?_nil, List.set_cons_zero, List.set_cons_succ, List.map_cons, List.map_nil, List.length_cons, List.length_nil, List.replicate_succ, List.replicate_zero, List.cons_append, List.nil_append, List.append_nil, if_true, if_false, ite_true, ite_false, reduceIte, Nat.reduceAdd, Nat.reduceSub, Nat.reduceLeDiff, Bool.not_true, Bool.not_false, Bool.false_eq_true, decide_true, decide_false, Option.map_some, Option.bind_some, Nat.zero_add, Nat.le_refl, String.reduceBEq, Bool.or_false, Bool.or_self, Bool.or_true, Bool.false_or, Bool.true_or, g1, eqS bj b2, e3]
    · have g1 : ((ρ0.set a (some (.int ((0 + j : Nat) : Int)))).set b (some (.str [l.getD j 0])))[a]? = some (some (.int ((0 + j : Nat) : Int))) := by
        rw [List.getElem?_set_ne (fun z => hab z.symm)]
        exact List.getElem?_set_self (by omega)
      generalize (ρ0.set a (some (.int ((0 + j : Nat) : Int)))).set b (some (.str [l.getD j 0])) = ρ1 at *
      have e9 : ((0 + j : Nat) : Int) + 1 = ((j + 1 : Nat) : Int) := by omega
      rw [← e9]
      rw [show ((0 + j : Nat) : Int) = ((j : Nat) : Int) by omega] at g1 ⊢
      simp only [runF, runR, start0, sRet, sSeq, sIf, sSet, sSetL, sPar, sParL, sAsg, sExpr, sSetIx, sApp, sAug, sNx, sBad, sBk, sRetN, thenS, fVar, fC, fOp, fUn, fTst, fNot, fAnd, fOr, fIf, fNil, fCons, fTup, fCall, fAndV, fOrV, fChain, fIsi, fIsi2, isTy, fSl, fNoPart, fPart, fM1, fCallF, fOwnIx, fRow, fOfL, fLstL, gfN, gfT, gfC, gfNil, Out.bind, ofO, opCmp, opIx, opAdd, opSub, unNeg, unNot, opSl, bLen, bInt, List.getElem?_cons_zero, List.getElem?_cons_succ, List.getElem?_nil, List.set_cons_zero, List.set_cons_succ, List.map_cons, List.map_nil, List.length_cons, List.length_nil, List.replicate_succ, List.replicate_zero, List.cons_append, List.nil_append, List.append_nil, if_true, if_false, ite_true, ite_false, reduceIte, Nat.reduceAdd, Nat.reduceSub, Nat.reduceLeDiff, Bool.not_true, Bool.not_false, Bool.false_eq_true, decide_true, decide_false, Option.map_some, Option.bind_some, Nat.zero_add, Nat.le_refl, String.reduceBEq, Bool.or_false, Bool.or_self, Bool.or_true, Bool.false_or, Bool.true_or, g1]
end Lw

namespace Lw
open PySem PySem.Spec PyProof PyProof.Rows DL ES
/-- what place hands back -/
def placeD (s t : List Nat) (n : Nat) : D := if n ≤ (WT.spotsL s).length ∨ WT.spotsL t ≠ [] then .int ((WT.placeF s t n : Nat) : Int) else .non
theorem lenInts (ns : List Nat) : (ns.map fun p => D.int ((p : Nat) : Int)).length = ns.length := List.length_map ..
theorem getInts {ns : List Nat} {i : Nat} (h : i < ns.length) : (ns.map fun p => D.int ((p : Nat) : Int))[i]? = some (.int ((ns.getD i 0 : Nat) : Int)) := by
  rw [List.getElem?_map, WT.getD_some h]
  rfl
theorem eqNilN (ns : List Nat) : opEq (.lst (ns.map fun p => D.int ((p : Nat) : Int))) (.lst []) = some (.bl ns.isEmpty) := by
  have := eqNil (ns.map fun p => ((p : Nat) : Int))
  rw [List.map_map] at this
  rw [show (ns.map fun p => ((p : Nat) : Int)).isEmpty = ns.isEmpty by cases ns <;> rfl] at this
  exact this
theorem inOne (t : List Nat) : opIn (.str [49]) (.str t) = some (.bl (decide (49 ∈ t))) := rfl
theorem total_of_wd {s t : List Nat} (h : Wd s t 1000) : m_total_of [wd s t] = .ok (if 49 ∈ t then .non else .int ((s.count 49 : Nat) : Int)) := by
  refine runF_ret (r := [some (wd s t)]) ?_
  show F_total_of [some (wd s t)] = _
  unfold F_total_of
  by_cases q : 49 ∈ t
  · simp only [runF, runR, start0, sRet, sSeq, sIf, sSet, sSetL, sPar, sParL, sAsg, sExpr, sSetIx, sApp, sAug, sNx, sBad, sBk, sRetN, thenS, fVar, fC, fOp, fUn, fTst, fNot, fAnd, fOr, fIf, fNil, fCons, fTup, fCall, fAndV, fOrV, fChain, fIsi, fIsi2, isTy, fSl, fNoPart, fPart, fM1, fCallF, fOwnIx, fRow, fOfL, fLstL, gfN, gfT, gfC, gfNil, Out.bind, ofO, opCmp, opIx, opAdd, opSub, unNeg, unNot, opSl, bLen, bInt, List.getElem?_cons_zero, List.getElem?_cons_succ, List.getElem?_nil, List.set_cons_zero, List.set_cons_succ, List.map_cons, List.map_nil, List.length_cons, List.length_nil, List.replicate_succ, List.replicate_zero, List.cons_append, List.nil_append, List.append_nil, if_true, if_false, ite_true, ite_false, reduceIte, Nat.reduceAdd, Nat.reduceSub, Nat.reduceLeDiff, Bool.not_true, Bool.not_false, Bool.false_eq_true, decide_true, decide_false, Option.map_some, Option.bind_some, Nat.zero_add, Nat.le_refl, String.reduceBEq, Bool.or_false, Bool.or_self, Bool.or_true, Bool.false_or, Bool.true_or, i0, i1, inOne, decide_eq_true q, if_pos q]
  · simp only [runF, runR, start0, sRet, sSeq, sIf, sSet, sSetL, sPar, sParL, sAsg, sExpr, sSetIx, sApp, sAug, sNx, sBad, sBk, sRetN, thenS, fVar, fC, fOp, fUn, fTst, fNot, fAnd, fOr, fIf, fNil, fCons, fTup, fCall, fAndV, fOrV, fChain, fIsi, fIsi2, isTy, fSl, fNoPart, fPart, fM1, fCallF, fOwnIx, fRow, fOfL, fLstL, gfN, gfT, gfC, gfNil, Out.bind, ofO, opCmp, opIx, opAdd, opSub, unNeg, unNot, opSl, bLen, bInt, List.getElem?_cons_zero, List.getElem?_cons_succ, List.getElem?_nil, List.set_cons_zero, List.set_cons_succ, List.map_cons, List.map_nil, List.length_cons, List.length_nil, List.replicate_succ, List.replicate_zero, List.cons_append, List.nil_append, List.append_nil, if_true, if_false, ite_true, ite_false, reduceIte, Nat.reduceAdd, Nat.reduceSub, Nat.reduceLeDiff, Bool.not_true, Bool.not_false, Bool.false_eq_true, decide_true, decide_false, Option.map_some, Option.bind_some, Nat.zero_add, Nat.le_refl, String.reduceBEq, Bool.or_false, Bool.or_self, Bool.or_true, Bool.false_or, Bool.true_or, i0, i1, inOne, decide_eq_false q, if_neg q, countS]
theorem flip_ev {l : List Nat} (h : Bt l) (hl : l.length ≤ 1000) {i b : Nat} {ρ : Rho} (hv : ρ[i]? = some (some (.str l))) (hb : b < ρ.length) :
    fComp [b] (fIt (fVar i)) (gfN b) fYes (fIf (fTst (fOp opEq (fVar b) (fC (.str [49])))) (fC (.str [48])) (fC (.str [49]))) ρ = .ok ((l.map WT.flip).map fun c => .str [c]) ρ := by
  have e0 : fIt (fVar i) ρ = .ok (l.map fun c => .str [c]) ρ := by
    simp [runF, runR, start0, sRet, sSeq, sIf, sSet, sSetL, sPar, sParL, sAsg, sExpr, sSetIx, sApp, sAug, sNx, sBad, sBk, sRetN, thenS, fVar, fC, fOp, fUn, fTst, fNot, fAnd, fOr, fIf, fNil, fCons, fTup, fCall, fAndV, fOrV, fChain, fIsi, fIsi2, isTy, fSl, fNoPart, fPart, fM1, fCallF, fOwnIx, fRow, fOfL, fLstL, gfN, gfT, gfC, gfNil, Out.bind, ofO, opCmp, opIx, opAdd, opSub, unNeg, unNot, opSl, bLen, bInt, fIt, hv, itemsOf]
  unfold fComp
  rw [e0, Out.bind_ok, if_pos (by rw [List.length_map]; exact limS (by omega)), List.map_map]
  rw [compP_all (g := fun c => D.str [c]) (h := (fun c => D.str [c]) ∘ WT.flip) l fun c hc => ?_]
  · rfl
  · have lw : (wipeR ρ [b]).length = ρ.length := wipeR_length ρ _
    generalize wipeR ρ [b] = ρ0 at *
    have g1 : (ρ0.set b (some (.str [c])))[b]? = some (some (.str [c])) := List.getElem?_set_self (by omega)
    have bc : Bt [c] := fun x hx => by rw [List.mem_singleton.mp hx]; exact h c hc
    have b2 : Bt [49] := fun c hc => .inr (List.mem_singleton.mp hc)
    have e3 : ([c] == [49]) = (c == 49) := by simp
    refine ⟨ρ0.set b (some (.str [c])), ρ0.set b (some (.str [c])), ρ0.set b (some (.str [c])), rfl, rfl, ?_⟩
    generalize ρ0.set b (some (.str [c])) = ρ1 at *
    unfold WT.flip
    by_cases q : c = 49
    · have q' : (c == 49) = true := beq_iff_eq.mpr q
      simp only [runF, runR, start0, sRet, sSeq, sIf, sSet, sSetL, sPar, sParL, sAsg, sExpr, sSetIx, sApp, sAug, sNx, sBad, sBk, sRetN, thenS, fVar, fC, fOp, fUn, fTst, fNot, fAnd, fOr, fIf, fNil, fCons, fTup, fCall, fAndV, fOrV, fChain, fIsi, fIsi2, isTy, fSl, fNoPart, fPart, fM1, fCallF, fOwnIx, fRow, fOfL, fLstL, gfN, gfT, gfC, gfNil, Out.bind, ofO, opCmp, opIx, opAdd, opSub, unNeg, unNot, opSl, bLen, bInt, List.getElem?_cons_zero, List.getElem?_cons_succ, List.getElem?_nil, List.set_cons_zero, List.set_cons_succ, List.map_cons, List.map_nil, List.length_cons, List.length_nil, List.replicate_succ, List.replicate_zero, List.cons_append, List.nil_append, List.append_nil, if_true, if_false, ite_true, ite_false, reduceIte, Nat.reduceAdd, Nat.reduceSub, Nat.reduceLeDiff, Bool.not_true, Bool.not_false, Bool.false_eq_true, decide_true, decide_false, Option.map_some, Option.bind_some, Nat.zero_add, Nat.le_refl, String.reduceBEq, Bool.or_false, Bool.or_self, Bool.or_true, Bool.false_or, Bool.true_or, g1, eqS bc b2, e3, q', if_pos q, Function.comp]
    · have q' : (c == 49) = false := beq_eq_false_iff_ne.mpr q
      simp only [runF, runR, start0, sRet, sSeq, sIf, sSet, sSetL, sPar, sParL, sAsg, sExpr, sSetIx, sApp, sAug, sNx, sBad, sBk, sRetN, thenS, fVar, fC, fOp, fUn, fTst, fNot, fAnd, fOr, fIf, fNil, fCons, fTup, fCall, fAndV, fOrV, fChain, fIsi, fIsi2, isTy, fSl, fNoPart, fPart, fM1, fCallF, fOwnIx, fRow, fOfL, fLstL, gfN, gfT, gfC, gfNil, Out.bind, ofO, opCmp, opIx, opAdd, opSub, unNeg, unNot, opSl, bLen, bInt, List.getElem?_cons_zero, List.getElem?_cons_succ, List.getElem?_nil, List.set_cons_zero, List.set_cons_succ, List.map_cons, List.map_nil, List.length_cons, List.length_nil, List.replicate_succ, List.replicate_zero, List.cons_append, List.nil_append, List.append_nil, if_true, if_false, ite_true, ite_false, reduceIte, Nat.reduceAdd, Nat.reduceSub, Nat.reduceLeDiff, Bool.not_true, Bool.not_false, Bool.false_eq_true, decide_true, decide_false, Option.map_some, Option.bind_some, Nat.zero_add, Nat.le_refl, String.reduceBEq, Bool.or_false, Bool.or_self, Bool.or_true, Bool.false_or, Bool.true_or, g1, eqS bc b2, e3, q', if_neg q, Function.comp]
theorem bt_flip (l : List Nat) : Bt (l.map WT.flip) := fun c h => by
  obtain ⟨x, _, e⟩ := List.mem_map.mp h
  rw [← e]
  unfold WT.flip
  split
  · exact .inl rfl
  · exact .inr rfl
end Lw

namespace Lw
open PySem PySem.Spec PyProof PyProof.Rows DL ES
theorem bits_rng (w0 : D) (n : Nat) (hn : n ≤ 2000) : fRng2 (fC (.int 1)) (fOp opAdd (fVar 1) (fC (.int 1))) [some w0, some (.int (n : Int)), none] = .ok ((List.range n).map fun i : Nat => .int (1 + (i : Int))) [some w0, some (.int (n : Int)), none] := by
  have k : ((n : Int) + 1 - 1).toNat = n := by omega
  have k2 : (1 : Int).natAbs ≤ lim ∧ ((n : Int) + 1).natAbs ≤ lim := ⟨show 1 ≤ 1000000 by omega, show n + 1 ≤ 1000000 by omega⟩
  clear hn
  simp only [runF, runR, start0, sRet, sSeq, sIf, sSet, sSetL, sPar, sParL, sAsg, sExpr, sSetIx, sApp, sAug, sNx, sBad, sBk, sRetN, thenS, fVar, fC, fOp, fUn, fTst, fNot, fAnd, fOr, fIf, fNil, fCons, fTup, fCall, fAndV, fOrV, fChain, fIsi, fIsi2, isTy, fSl, fNoPart, fPart, fM1, fCallF, fOwnIx, fRow, fOfL, fLstL, gfN, gfT, gfC, gfNil, Out.bind, ofO, opCmp, opIx, opAdd, opSub, unNeg, unNot, opSl, bLen, bInt, List.getElem?_cons_zero, List.getElem?_cons_succ, List.getElem?_nil, List.set_cons_zero, List.set_cons_succ, List.map_cons, List.map_nil, List.length_cons, List.length_nil, List.replicate_succ, List.replicate_zero, List.cons_append, List.nil_append, List.append_nil, if_true, if_false, ite_true, ite_false, reduceIte, Nat.reduceAdd, Nat.reduceSub, Nat.reduceLeDiff, Bool.not_true, Bool.not_false, Bool.false_eq_true, decide_true, decide_false, Option.map_some, Option.bind_some, Nat.zero_add, Nat.le_refl, String.reduceBEq, Bool.or_false, Bool.or_self, Bool.or_true, Bool.false_or, Bool.true_or, fRng2, if_pos k2, k, numD_map]
theorem flip_wd {s t : List Nat} {n : Nat} (h : Wd s t n) : Wd (s.map WT.flip) (t.map WT.flip) n := ⟨bt_flip s, bt_flip t, by rw [List.length_map]; exact h.ls, by rw [List.length_map]; exact h.lt, fun z => h.ne (List.map_eq_nil_iff.mp z)⟩
/-- the word that begins n beats later -/
def lateS (s : List Nat) (n : Nat) : List Nat := List.replicate n 48 ++ s
theorem late_flat (n : Nat) : (List.replicate n [48]).flatten = List.replicate n 48 := by
  induction n with
  | zero => rfl
  | succ n ih => rw [List.replicate_succ, List.flatten_cons, ih]; rfl
theorem bt_late {s : List Nat} (h : Bt s) (n : Nat) : Bt (lateS s n) := bt_app (fun c q => .inl (List.mem_replicate.mp q).2) h
theorem late_len (s : List Nat) (n : Nat) : (lateS s n).length = n + s.length := by
  unfold lateS
  rw [List.length_append, List.length_replicate]
end Lw

namespace Lw
open PySem PySem.Spec PyProof PyProof.Rows DL ES
/-! the law's own defs -/
theorem flat_snoc (t : List Nat) (m : Nat) : (List.replicate (m + 1) t).flatten = (List.replicate m t).flatten ++ t := by
  rw [List.replicate_succ', List.flatten_append]
  simp
theorem app_loop (w0 w1 : D) (s t : List Nat) : ∀ (ds : List D) (m : Nat) (x : Option D), s.length + (m + ds.length) * t.length ≤ 1000000 → w0 = wd s t → ∃ y, loopF (gfN 3) (sSet 2 (fOp opAdd (fVar 2) (fOp opIx (fVar 0) (fC (.int 1))))) ds [some w0, some w1, some (.str (s ++ (List.replicate m t).flatten)), x] = .nx [some w0, some w1, some (.str (s ++ (List.replicate (m + ds.length) t).flatten)), y]
  | [], m, x, _, _ => ⟨x, rfl⟩
  | d :: ds, m, x, h, e => by
    subst e
    have hb : sSet 2 (fOp opAdd (fVar 2) (fOp opIx (fVar 0) (fC (.int 1)))) [some (wd s t), some w1, some (.str (s ++ (List.replicate m t).flatten)), some d] = .nx [some (wd s t), some w1, some (.str (s ++ (List.replicate (m + 1) t).flatten)), some d] := by
      have k : (m + 1) * t.length ≤ (m + (ds.length + 1)) * t.length := Nat.mul_le_mul_right _ (by omega)
      rw [Nat.succ_mul] at k
      have l : (s ++ (List.replicate m t).flatten).length + t.length ≤ lim := limS (by rw [List.length_append, WT.flat_len]; rw [List.length_cons] at h; omega)
      rw [flat_snoc, ← List.append_assoc]
      generalize s ++ (List.replicate m t).flatten = z at *
      simp only [runF, runR, start0, sRet, sSeq, sIf, sSet, sSetL, sPar, sParL, sAsg, sExpr, sSetIx, sApp, sAug, sNx, sBad, sBk, sRetN, thenS, fVar, fC, fOp, fUn, fTst, fNot, fAnd, fOr, fIf, fNil, fCons, fTup, fCall, fAndV, fOrV, fChain, fIsi, fIsi2, isTy, fSl, fNoPart, fPart, fM1, fCallF, fOwnIx, fRow, fOfL, fLstL, gfN, gfT, gfC, gfNil, Out.bind, ofO, opCmp, opIx, opAdd, opSub, unNeg, unNot, opSl, bLen, bInt, List.getElem?_cons_zero, List.getElem?_cons_succ, List.getElem?_nil, List.set_cons_zero, List.set_cons_succ, List.map_cons, List.map_nil, List.length_cons, List.length_nil, List.replicate_succ, List.replicate_zero, List.cons_append, List.nil_append, List.append_nil, if_true, if_false, ite_true, ite_false, reduceIte, Nat.reduceAdd, Nat.reduceSub, Nat.reduceLeDiff, Bool.not_true, Bool.not_false, Bool.false_eq_true, decide_true, decide_false, Option.map_some, Option.bind_some, Nat.zero_add, Nat.le_refl, String.reduceBEq, Bool.or_false, Bool.or_self, Bool.or_true, Bool.false_or, Bool.true_or, i1, if_pos l]
    unfold loopF
    have e2 : gfN 3 d [some (wd s t), some w1, some (.str (s ++ (List.replicate m t).flatten)), x] = some [some (wd s t), some w1, some (.str (s ++ (List.replicate m t).flatten)), some d] := rfl
    simp only [e2]
    rw [hb]
    obtain ⟨y, hy⟩ := app_loop (wd s t) w1 s t ds (m + 1) (some d) (by rw [List.length_cons] at h; rw [show m + 1 + ds.length = m + (ds.length + 1) by omega]; exact h) rfl
    exact ⟨y, by rw [List.length_cons, show m + (ds.length + 1) = m + 1 + ds.length by omega]; exact hy⟩
theorem txt_flat {s t : List Nat} (ht : t ≠ []) {m n : Nat} (h : n ≤ s.length + m * t.length) : (s ++ (List.replicate m t).flatten).take n = WT.txt s t n := by
  refine List.ext_getElem? fun i => ?_
  rcases Nat.lt_or_ge i n with k | k
  · rw [List.getElem?_take_of_lt k, WT.txt_get k]
    rcases Nat.lt_or_ge i s.length with q | q
    · rw [List.getElem?_append_left q, WT.sat_lt q]
      exact WT.getD_some q
    · rw [List.getElem?_append_right q, WT.sat_ge q, ← WT.flat_get t ht m _ (by omega)]
      exact WT.getD_some (by rw [WT.flat_len]; omega)
  · rw [List.getElem?_eq_none (by rw [List.length_take]; omega), List.getElem?_eq_none (by rw [WT.txt_len]; exact k)]
theorem law_bits_wd {s t : List Nat} (h : Wd s t 400) {n : Nat} (hn : n ≤ 2000) : m_law_bits [wd s t, .int (n : Int)] = .ok (.str (WT.txt s t n)) := by
  have hp := h.pos
  have ls := h.ls
  have lt := h.lt
  have hd : n / t.length ≤ n := Nat.div_le_self _ _
  have hm : (n / t.length + 1) * t.length ≤ n + t.length := by
    rw [Nat.succ_mul]
    have := Nat.div_mul_le_self n t.length
    omega
  have hm2 : n ≤ (n / t.length + 1) * t.length := by
    have := Nat.lt_div_mul_add (a := n) hp
    rw [Nat.succ_mul]
    omega
  obtain ⟨y, hy⟩ := app_loop (wd s t) (.int (n : Int)) s t (numD 0 (n / t.length + 1)) 0 none (by rw [numD_len, Nat.zero_add]; omega) rfl
  rw [numD_len, Nat.zero_add, List.replicate_zero, List.flatten_nil, List.append_nil] at hy
  have ht := txt_flat h.ne (s := s) (m := n / t.length + 1) (n := n) (by omega)
  have l2 : t.length ≤ lim := limS (by omega)
  have l3 : (s ++ (List.replicate (n / t.length + 1) t).flatten).length ≤ lim := limS (by rw [List.length_append, WT.flat_len]; omega)
  have e3' : ∀ q : Nat, ((q : Int) + 1).toNat = q + 1 := fun q => by omega
  have e3 := e3' (n / t.length)
  have e4 : (((n / t.length : Nat) : Int) + 1).natAbs ≤ lim := limS (show n / t.length + 1 ≤ 1000000 by omega)
  refine runF_ret (r := [some (wd s t), some (.int (n : Int)), some (.str (s ++ (List.replicate (n / t.length + 1) t).flatten)), y]) ?_
  show F_law_bits [some (wd s t), some (.int (n : Int)), none, none] = _
  unfold F_law_bits
  have eit : fRng1 (fOp opAdd (fOp opDiv (fVar 1) (fCall bLen (fCons (fOp opIx (fVar 0) (fC (.int 1))) fNil))) (fC (.int 1))) [some (wd s t), some (.int (n : Int)), some (.str s), none] = .ok (numD 0 (n / t.length + 1)) [some (wd s t), some (.int (n : Int)), some (.str s), none] := by
    simp only [runF, runR, start0, sRet, sSeq, sIf, sSet, sSetL, sPar, sParL, sAsg, sExpr, sSetIx, sApp, sAug, sNx, sBad, sBk, sRetN, thenS, fVar, fC, fOp, fUn, fTst, fNot, fAnd, fOr, fIf, fNil, fCons, fTup, fCall, fAndV, fOrV, fChain, fIsi, fIsi2, isTy, fSl, fNoPart, fPart, fM1, fCallF, fOwnIx, fRow, fOfL, fLstL, gfN, gfT, gfC, gfNil, Out.bind, ofO, opCmp, opIx, opAdd, opSub, unNeg, unNot, opSl, bLen, bInt, List.getElem?_cons_zero, List.getElem?_cons_succ, List.getElem?_nil, List.set_cons_zero, List.set_cons_succ, List.map_cons, List.map_nil, List.length_cons, List.length_nil, List.replicate_succ, List.replicate_zero, List.cons_append, List.nil_append, List.append_nil, if_true, if_false, ite_true, ite_false, reduceIte, Nat.reduceAdd, Nat.reduceSub, Nat.reduceLeDiff, Bool.not_true, Bool.not_false, Bool.false_eq_true, decide_true, decide_false, Option.map_some, Option.bind_some, Nat.zero_add, Nat.le_refl, String.reduceBEq, Bool.or_false, Bool.or_self, Bool.or_true, Bool.false_or, Bool.true_or, fRng1, i1, if_pos l2, divN (show t.length ≠ 0 by omega) (show t.length < 1073741824 by omega), e3, if_pos e4]
  have efor : sFor (fRng1 (fOp opAdd (fOp opDiv (fVar 1) (fCall bLen (fCons (fOp opIx (fVar 0) (fC (.int 1))) fNil))) (fC (.int 1)))) (gfN 3) (sSet 2 (fOp opAdd (fVar 2) (fOp opIx (fVar 0) (fC (.int 1))))) [some (wd s t), some (.int (n : Int)), some (.str s), none] = .nx [some (wd s t), some (.int (n : Int)), some (.str (s ++ (List.replicate (n / t.length + 1) t).flatten)), y] := by
    unfold sFor
    rw [eit]
    exact hy
  generalize sFor (fRng1 (fOp opAdd (fOp opDiv (fVar 1) (fCall bLen (fCons (fOp opIx (fVar 0) (fC (.int 1))) fNil))) (fC (.int 1)))) (gfN 3) (sSet 2 (fOp opAdd (fVar 2) (fOp opIx (fVar 0) (fC (.int 1))))) = ff at *
  generalize s ++ (List.replicate (n / t.length + 1) t).flatten = z at *
  simp only [runF, runR, start0, sRet, sSeq, sIf, sSet, sSetL, sPar, sParL, sAsg, sExpr, sSetIx, sApp, sAug, sNx, sBad, sBk, sRetN, thenS, fVar, fC, fOp, fUn, fTst, fNot, fAnd, fOr, fIf, fNil, fCons, fTup, fCall, fAndV, fOrV, fChain, fIsi, fIsi2, isTy, fSl, fNoPart, fPart, fM1, fCallF, fOwnIx, fRow, fOfL, fLstL, gfN, gfT, gfC, gfNil, Out.bind, ofO, opCmp, opIx, opAdd, opSub, unNeg, unNot, opSl, bLen, bInt, List.getElem?_cons_zero, List.getElem?_cons_succ, List.getElem?_nil, List.set_cons_zero, List.set_cons_succ, List.map_cons, List.map_nil, List.length_cons, List.length_nil, List.replicate_succ, List.replicate_zero, List.cons_append, List.nil_append, List.append_nil, if_true, if_false, ite_true, ite_false, reduceIte, Nat.reduceAdd, Nat.reduceSub, Nat.reduceLeDiff, Bool.not_true, Bool.not_false, Bool.false_eq_true, decide_true, decide_false, Option.map_some, Option.bind_some, Nat.zero_add, Nat.le_refl, String.reduceBEq, Bool.or_false, Bool.or_self, Bool.or_true, Bool.false_or, Bool.true_or, i0, i1, efor, cut_to, ht, if_pos l3]
/-- not cut into equal pieces -/
theorem prim_perB {t : List Nat} (h : WT.Prim t) {k : Nat} (h1 : 0 < k) (h2 : k < t.length) : WT.perB t k = false := by
  cases e : WT.perB t k with
  | false => rfl
  | true =>
    obtain ⟨a, b⟩ := (WT.perB_iff h1 (by omega)).mp e
    exact (h k h1 h2 a b).elim
def bodyI : FS := (sIf (fAnd (fTst (fOp opEq (fOp opMul (fOp opDiv (fCall bLen (fCons (fVar 2) fNil)) (fVar 3)) (fVar 3)) (fCall bLen (fCons (fVar 2) fNil)))) (fTst (fOp opEq (fVar 2) (fOp opMul (fSl (fVar 2) fNoPart (fPart (fVar 3))) (fOp opDiv (fCall bLen (fCons (fVar 2) fNil)) (fVar 3)))))) (sRet (fC (.bl false))) sNx)
theorem isn_body {w0 w1 : D} {t : List Nat} (h : Bt t) (hl : t.length ≤ 1000) (hp : WT.Prim t) {k : Nat} (hk : 1 ≤ k) (hkt : k < t.length) : bodyI [some w0, some w1, some (.str t), some (.int (k : Int))] = .nx [some w0, some w1, some (.str t), some (.int (k : Int))] := by
  have h1 : t.length ≤ lim := limS (by omega)
  have h2' : ¬ k = 0 := by omega
  have h3 : k < 1073741824 := by omega
  have hd : t.length / k ≤ t.length := Nat.div_le_self _ _
  have hm : (t.take k).length * (t.length / k) ≤ 1000000 := by
    rw [List.length_take, Nat.min_eq_left (by omega)]
    have := Nat.mul_div_le t.length k
    omega
  have hm2 : t.length / k ≤ 1000000 := by omega
  have hq := prim_perB hp (show 0 < k by omega) hkt
  unfold WT.perB at hq
  have em : opMul (.int ((t.length / k : Nat) : Int)) (.int (k : Int)) = some (.int ((t.length / k * k : Nat) : Int)) := by
    rw [mulI (.inr (by omega))]
    exact congrArg (fun z => some (D.int z)) (Int.natCast_mul _ _).symm
  unfold bodyI
  by_cases q : t.length % k = 0
  · have q1 : (t.length / k * k == t.length) = true := by
      have := Nat.div_add_mod t.length k
      rw [Nat.mul_comm] at this
      exact beq_iff_eq.mpr (by omega)
    have q2 : (t == (List.replicate (t.length / k) (List.take k t)).flatten) = false := by
      rw [beq_iff_eq.mpr q, Bool.true_and] at hq
      exact beq_eq_false_iff_ne.mpr fun z => by
        rw [← z] at hq
        simp at hq
    simp only [runF, runR, start0, sRet, sSeq, sIf, sSet, sSetL, sPar, sParL, sAsg, sExpr, sSetIx, sApp, sAug, sNx, sBad, sBk, sRetN, thenS, fVar, fC, fOp, fUn, fTst, fNot, fAnd, fOr, fIf, fNil, fCons, fTup, fCall, fAndV, fOrV, fChain, fIsi, fIsi2, isTy, fSl, fNoPart, fPart, fM1, fCallF, fOwnIx, fRow, fOfL, fLstL, gfN, gfT, gfC, gfNil, Out.bind, ofO, opCmp, opIx, opAdd, opSub, unNeg, unNot, opSl, bLen, bInt, List.getElem?_cons_zero, List.getElem?_cons_succ, List.getElem?_nil, List.set_cons_zero, List.set_cons_succ, List.map_cons, List.map_nil, List.length_cons, List.length_nil, List.replicate_succ, List.replicate_zero, List.cons_append, List.nil_append, List.append_nil, if_true, if_false, ite_true, ite_false, reduceIte, Nat.reduceAdd, Nat.reduceSub, Nat.reduceLeDiff, Bool.not_true, Bool.not_false, Bool.false_eq_true, decide_true, decide_false, Option.map_some, Option.bind_some, Nat.zero_add, Nat.le_refl, String.reduceBEq, Bool.or_false, Bool.or_self, Bool.or_true, Bool.false_or, Bool.true_or, if_pos h1, divN h2' h3, em, eqI, beqN, q1, cut_to, mul_str _ _ hm hm2, eqS h (bt_flat (bt_take h k) (t.length / k)), q2]
  · have q1 : (t.length / k * k == t.length) = false := by
      have := Nat.div_add_mod t.length k
      rw [Nat.mul_comm] at this
      exact beq_eq_false_iff_ne.mpr (by omega)
    simp only [runF, runR, start0, sRet, sSeq, sIf, sSet, sSetL, sPar, sParL, sAsg, sExpr, sSetIx, sApp, sAug, sNx, sBad, sBk, sRetN, thenS, fVar, fC, fOp, fUn, fTst, fNot, fAnd, fOr, fIf, fNil, fCons, fTup, fCall, fAndV, fOrV, fChain, fIsi, fIsi2, isTy, fSl, fNoPart, fPart, fM1, fCallF, fOwnIx, fRow, fOfL, fLstL, gfN, gfT, gfC, gfNil, Out.bind, ofO, opCmp, opIx, opAdd, opSub, unNeg, unNot, opSl, bLen, bInt, List.getElem?_cons_zero, List.getElem?_cons_succ, List.getElem?_nil, List.set_cons_zero, List.set_cons_succ, List.map_cons, List.map_nil, List.length_cons, List.length_nil, List.replicate_succ, List.replicate_zero, List.cons_append, List.nil_append, List.append_nil, if_true, if_false, ite_true, ite_false, reduceIte, Nat.reduceAdd, Nat.reduceSub, Nat.reduceLeDiff, Bool.not_true, Bool.not_false, Bool.false_eq_true, decide_true, decide_false, Option.map_some, Option.bind_some, Nat.zero_add, Nat.le_refl, String.reduceBEq, Bool.or_false, Bool.or_self, Bool.or_true, Bool.false_or, Bool.true_or, if_pos h1, divN h2' h3, em, eqI, beqN, q1]
theorem isn_loop {w0 w1 : D} {t : List Nat} (h : Bt t) (hl : t.length ≤ 1000) (hp : WT.Prim t) : ∀ (n a : Nat) (x : Option D), 1 ≤ a → a + n ≤ t.length → ∃ y, loopF (gfN 3) bodyI (numD (a : Int) n) [some w0, some w1, some (.str t), x] = .nx [some w0, some w1, some (.str t), y]
  | 0, a, x, _, _ => ⟨x, rfl⟩
  | n + 1, a, x, h1, h2 => by
    have hb := isn_body (w0 := w0) (w1 := w1) h hl hp (k := a) h1 (by omega)
    show ∃ y, loopF (gfN 3) bodyI (.int (a : Int) :: numD ((a : Int) + 1) n) _ = _
    unfold loopF
    have e : gfN 3 (.int (a : Int)) [some w0, some w1, some (.str t), x] = some [some w0, some w1, some (.str t), some (.int (a : Int))] := rfl
    simp only [e]
    rw [hb]
    exact isn_loop h hl hp n (a + 1) (some (.int (a : Int))) (by omega) (by omega)
theorem law_is_normal_wd {s t : List Nat} (h : Wd s t 1000) (hp : WT.Prim t) (hn : WT.Norm s t) : m_law_is_normal [wd s t] = .ok (.bl true) := by
  have lt := h.lt
  have ls := h.ls
  have hl := h.pos
  obtain ⟨y, hy⟩ := isn_loop (w0 := wd s t) (w1 := .str s) h.bt lt hp (t.length - 1) 1 none (by omega) (by omega)
  have l1 : s.length ≤ lim := limS (by omega)
  have l2 : t.length ≤ lim := limS (by omega)
  have e4 : (1 : Int).natAbs ≤ lim ∧ ((t.length : Nat) : Int).natAbs ≤ lim := ⟨limS (show 1 ≤ 1000000 by omega), limS (show t.length ≤ 1000000 by omega)⟩
  have e5 : ((t.length : Nat) : Int) - 1 = ((t.length - 1 : Nat) : Int) := by omega
  have eit : fRng2 (fC (.int 1)) (fCall bLen (fCons (fVar 2) fNil)) [some (wd s t), some (.str s), some (.str t), none] = .ok (numD 1 (t.length - 1)) [some (wd s t), some (.str s), some (.str t), none] := by
    simp only [runF, runR, start0, sRet, sSeq, sIf, sSet, sSetL, sPar, sParL, sAsg, sExpr, sSetIx, sApp, sAug, sNx, sBad, sBk, sRetN, thenS, fVar, fC, fOp, fUn, fTst, fNot, fAnd, fOr, fIf, fNil, fCons, fTup, fCall, fAndV, fOrV, fChain, fIsi, fIsi2, isTy, fSl, fNoPart, fPart, fM1, fCallF, fOwnIx, fRow, fOfL, fLstL, gfN, gfT, gfC, gfNil, Out.bind, ofO, opCmp, opIx, opAdd, opSub, unNeg, unNot, opSl, bLen, bInt, List.getElem?_cons_zero, List.getElem?_cons_succ, List.getElem?_nil, List.set_cons_zero, List.set_cons_succ, List.map_cons, List.map_nil, List.length_cons, List.length_nil, List.replicate_succ, List.replicate_zero, List.cons_append, List.nil_append, List.append_nil, if_true, if_false, ite_true, ite_false, reduceIte, Nat.reduceAdd, Nat.reduceSub, Nat.reduceLeDiff, Bool.not_true, Bool.not_false, Bool.false_eq_true, decide_true, decide_false, Option.map_some, Option.bind_some, Nat.zero_add, Nat.le_refl, String.reduceBEq, Bool.or_false, Bool.or_self, Bool.or_true, Bool.false_or, Bool.true_or, fRng2, if_pos l2, if_pos e4, e5, Int.toNat_natCast]
  have efor : sFor (fRng2 (fC (.int 1)) (fCall bLen (fCons (fVar 2) fNil))) (gfN 3) bodyI [some (wd s t), some (.str s), some (.str t), none] = .nx [some (wd s t), some (.str s), some (.str t), y] := by
    unfold sFor
    rw [eit]
    exact hy
  refine runF_ret (r := [some (wd s t), some (.str s), some (.str t), y]) ?_
  show F_law_is_normal [some (wd s t), none, none, none] = _
  unfold F_law_is_normal
  show sSeq _ (sSeq (sFor _ _ bodyI) _) _ = _
  generalize sFor (fRng2 (fC (.int 1)) (fCall bLen (fCons (fVar 2) fNil))) (gfN 3) bodyI = ff at *
  by_cases z : s = []
  · have z' : (s == []) = true := by rw [z]; rfl
    simp only [runF, runR, start0, sRet, sSeq, sIf, sSet, sSetL, sPar, sParL, sAsg, sExpr, sSetIx, sApp, sAug, sNx, sBad, sBk, sRetN, thenS, fVar, fC, fOp, fUn, fTst, fNot, fAnd, fOr, fIf, fNil, fCons, fTup, fCall, fAndV, fOrV, fChain, fIsi, fIsi2, isTy, fSl, fNoPart, fPart, fM1, fCallF, fOwnIx, fRow, fOfL, fLstL, gfN, gfT, gfC, gfNil, Out.bind, ofO, opCmp, opIx, opAdd, opSub, unNeg, unNot, opSl, bLen, bInt, List.getElem?_cons_zero, List.getElem?_cons_succ, List.getElem?_nil, List.set_cons_zero, List.set_cons_succ, List.map_cons, List.map_nil, List.length_cons, List.length_nil, List.replicate_succ, List.replicate_zero, List.cons_append, List.nil_append, List.append_nil, if_true, if_false, ite_true, ite_false, reduceIte, Nat.reduceAdd, Nat.reduceSub, Nat.reduceLeDiff, Bool.not_true, Bool.not_false, Bool.false_eq_true, decide_true, decide_false, Option.map_some, Option.bind_some, Nat.zero_add, Nat.le_refl, String.reduceBEq, Bool.or_false, Bool.or_self, Bool.or_true, Bool.false_or, Bool.true_or, efor, eqS h.bs bt_nil, z']
  · have z' : (s == []) = false := beq_eq_false_iff_ne.mpr z
    obtain ⟨c, hc⟩ : ∃ c, s.getLast? = some c := ⟨_, WT.getLast_getD z⟩
    obtain ⟨d, hd⟩ : ∃ c, t.getLast? = some c := ⟨_, WT.getLast_getD h.ne⟩
    have bc : Bt [c] := fun x hx => by
      rw [List.mem_singleton.mp hx]
      exact h.bs c (List.mem_of_getLast? hc)
    have bd : Bt [d] := fun x hx => by
      rw [List.mem_singleton.mp hx]
      exact h.bt d (List.mem_of_getLast? hd)
    have e1 : ([c] == [d]) = false := by
      refine beq_eq_false_iff_ne.mpr fun q => ?_
      injection q with q
      rcases hn with hn | hn
      · exact z hn
      · exact hn (by rw [hc, hd, q])
    simp only [runF, runR, start0, sRet, sSeq, sIf, sSet, sSetL, sPar, sParL, sAsg, sExpr, sSetIx, sApp, sAug, sNx, sBad, sBk, sRetN, thenS, fVar, fC, fOp, fUn, fTst, fNot, fAnd, fOr, fIf, fNil, fCons, fTup, fCall, fAndV, fOrV, fChain, fIsi, fIsi2, isTy, fSl, fNoPart, fPart, fM1, fCallF, fOwnIx, fRow, fOfL, fLstL, gfN, gfT, gfC, gfNil, Out.bind, ofO, opCmp, opIx, opAdd, opSub, unNeg, unNot, opSl, bLen, bInt, List.getElem?_cons_zero, List.getElem?_cons_succ, List.getElem?_nil, List.set_cons_zero, List.set_cons_succ, List.map_cons, List.map_nil, List.length_cons, List.length_nil, List.replicate_succ, List.replicate_zero, List.cons_append, List.nil_append, List.append_nil, if_true, if_false, ite_true, ite_false, reduceIte, Nat.reduceAdd, Nat.reduceSub, Nat.reduceLeDiff, Bool.not_true, Bool.not_false, Bool.false_eq_true, decide_true, decide_false, Option.map_some, Option.bind_some, Nat.zero_add, Nat.le_refl, String.reduceBEq, Bool.or_false, Bool.or_self, Bool.or_true, Bool.false_or, Bool.true_or, efor, eqS h.bs bt_nil, z', if_pos l1, if_pos l2, ix_last z, ix_last h.ne, hc, hd, neS bc bd, e1]
theorem law_is_word_wd {s t T : List Nat} (h : Wd s t 400) (hp : WT.Prim t) (hn : WT.Norm s t) (bT : Bt T) (hT : T.length ≤ 2000) (e : WT.txt s t T.length = T) : m_law_is_word [wd s t, .str T] = .ok (.bl true) := by
  have l1 : T.length ≤ lim := limS (by omega)
  have e1 := law_bits_wd h hT
  rw [e] at e1
  have e2 : (t == []) = false := beq_eq_false_iff_ne.mpr h.ne
  have e3 : (T == T) = true := by simp
  have e5 : (((2 : Nat) : Int) == 2) = true := rfl
  refine runF_ret (r := [some (wd s t), some (.str T)]) ?_
  show F_law_is_word [some (wd s t), some (.str T)] = _
  unfold F_law_is_word
  simp only [runF, runR, start0, sRet, sSeq, sIf, sSet, sSetL, sPar, sParL, sAsg, sExpr, sSetIx, sApp, sAug, sNx, sBad, sBk, sRetN, thenS, fVar, fC, fOp, fUn, fTst, fNot, fAnd, fOr, fIf, fNil, fCons, fTup, fCall, fAndV, fOrV, fChain, fIsi, fIsi2, isTy, fSl, fNoPart, fPart, fM1, fCallF, fOwnIx, fRow, fOfL, fLstL, gfN, gfT, gfC, gfNil, Out.bind, ofO, opCmp, opIx, opAdd, opSub, unNeg, unNot, opSl, bLen, bInt, List.getElem?_cons_zero, List.getElem?_cons_succ, List.getElem?_nil, List.set_cons_zero, List.set_cons_succ, List.map_cons, List.map_nil, List.length_cons, List.length_nil, List.replicate_succ, List.replicate_zero, List.cons_append, List.nil_append, List.append_nil, if_true, if_false, ite_true, ite_false, reduceIte, Nat.reduceAdd, Nat.reduceSub, Nat.reduceLeDiff, Bool.not_true, Bool.not_false, Bool.false_eq_true, decide_true, decide_false, Option.map_some, Option.bind_some, Nat.zero_add, Nat.le_refl, String.reduceBEq, Bool.or_false, Bool.or_self, Bool.or_true, Bool.false_or, Bool.true_or, i0, i1, neI, e5, beq_self_eq_true, Bool.or_self, show (("str" : String) == "str") = true from rfl, show (("tuple" : String) == "tuple") = true from rfl, neS h.bt bt_nil, e2, law_is_normal_wd (h.up (show 400 ≤ 1000 by decide)) hp hn, if_pos l1, e1, eqS bT bT, e3, show (((0 + 1 + 1 : Nat) : Int) == 2) = true from rfl]
end Lw

namespace Lw
open PySem PySem.Spec PyProof PyProof.Rows DL ES
/-! sums -/
def sumsN (T : List Nat) : List D := (List.range (T.length + 1)).map fun i => .int (((T.take i).count 49 : Nat) : Int)
theorem sumsN_snoc (T : List Nat) (c : Nat) : sumsN (T ++ [c]) = sumsN T ++ [.int (((T ++ [c]).count 49 : Nat) : Int)] := by
  unfold sumsN
  rw [List.length_append, List.length_singleton, List.range_succ, List.map_append]
  refine congr (congrArg _ (List.map_congr_left fun i hi => ?_)) ?_
  · have := List.mem_range.mp hi
    rw [List.take_append_of_le_length (by omega)]
  · rw [List.map_cons, List.map_nil, List.take_of_length_le (by simp)]
theorem sumsN_len (T : List Nat) : (sumsN T).length = T.length + 1 := by
  unfold sumsN
  rw [List.length_map, List.length_range]
theorem sums_loop (w0 : D) : ∀ (l T : List Nat) (x : Option D), Bt l → T.length + l.length ≤ 10000 → ∃ y, loopF (gfN 2) (sApp 1 (fOp opAdd (fOwnIx 1 (fUn unNeg (fC (.int 1)))) (fCall bInt (fCons (fOp opEq (fVar 2) (fC (.str [49]))) fNil)))) (l.map fun c => .str [c]) [some w0, some (.lst (sumsN T)), x] = .nx [some w0, some (.lst (sumsN (T ++ l))), y]
  | [], T, x, _, _ => ⟨x, by rw [List.append_nil]; rfl⟩
  | c :: l, T, x, h, hl => by
    have hb : sApp 1 (fOp opAdd (fOwnIx 1 (fUn unNeg (fC (.int 1)))) (fCall bInt (fCons (fOp opEq (fVar 2) (fC (.str [49]))) fNil))) [some w0, some (.lst (sumsN T)), some (.str [c])] = .nx [some w0, some (.lst (sumsN (T ++ [c]))), some (.str [c])] := by
      have bc : Bt [c] := fun x hx => by rw [List.mem_singleton.mp hx]; exact h c List.mem_cons_self
      have b2 : Bt [49] := fun c hc => .inr (List.mem_singleton.mp hc)
      have hne : sumsN T ≠ [] := fun z => by
        have := sumsN_len T
        rw [z] at this
        simp at this
      have hlast : (sumsN T).getLast? = some (.int ((T.count 49 : Nat) : Int)) := by
        unfold sumsN
        rw [List.range_succ, List.map_append, List.map_cons, List.map_nil, List.getLast?_concat, List.take_length]
      have hlim : (sumsN T).length < lim := by
        rw [sumsN_len]
        show T.length + 1 < 1000000
        rw [List.length_cons] at hl
        omega
      have e3 : ([c] == [49]) = (c == 49) := by simp
      have e4 : ((T.count 49 : Nat) : Int) + (if (c == 49) = true then 1 else 0) = (((T ++ [c]).count 49 : Nat) : Int) := by
        rw [List.count_append]
        by_cases q : c = 49
        · rw [if_pos (beq_iff_eq.mpr q), q]
          rfl
        · rw [if_neg (by simpa using q), List.count_cons_of_ne (by simpa using q)]
          rfl
      rw [sumsN_snoc]
      generalize sumsN T = S at *
      simp only [runF, runR, start0, sRet, sSeq, sIf, sSet, sSetL, sPar, sParL, sAsg, sExpr, sSetIx, sApp, sAug, sNx, sBad, sBk, sRetN, thenS, fVar, fC, fOp, fUn, fTst, fNot, fAnd, fOr, fIf, fNil, fCons, fTup, fCall, fAndV, fOrV, fChain, fIsi, fIsi2, isTy, fSl, fNoPart, fPart, fM1, fCallF, fOwnIx, fRow, fOfL, fLstL, gfN, gfT, gfC, gfNil, Out.bind, ofO, opCmp, opIx, opAdd, opSub, unNeg, unNot, opSl, bLen, bInt, List.getElem?_cons_zero, List.getElem?_cons_succ, List.getElem?_nil, List.set_cons_zero, List.set_cons_succ, List.map_cons, List.map_nil, List.length_cons, List.length_nil, List.replicate_succ, List.replicate_zero, List.cons_append, List.nil_append, List.append_nil, if_true, if_false, ite_true, ite_false, reduceIte, Nat.reduceAdd, Nat.reduceSub, Nat.reduceLeDiff, Bool.not_true, Bool.not_false, Bool.false_eq_true, decide_true, decide_false, Option.map_some, Option.bind_some, Nat.zero_add, Nat.le_refl, String.reduceBEq, Bool.or_false, Bool.or_self, Bool.or_true, Bool.false_or, Bool.true_or, ix_last hne, hlast, eqS bc b2, e3, e4, if_pos hlim]
    obtain ⟨y, hy⟩ := sums_loop w0 l (T ++ [c]) (some (.str [c])) (fun x hx => h x (List.mem_cons_of_mem _ hx)) (by rw [List.length_append, List.length_singleton]; rw [List.length_cons] at hl; omega)
    refine ⟨y, ?_⟩
    rw [List.map_cons]
    unfold loopF
    have e2 : gfN 2 (.str [c]) [some w0, some (.lst (sumsN T)), x] = some [some w0, some (.lst (sumsN T)), some (.str [c])] := rfl
    simp only [e2]
    rw [hb]
    simp only
    rw [hy, List.append_assoc]
    rfl
theorem law_sums_ok {T : List Nat} (h : Bt T) (hl : T.length ≤ 5000) : m_law_sums [.str T] = .ok (.lst (sumsN T)) := by
  obtain ⟨y, hy⟩ := sums_loop (.str T) T [] none h (by simp; omega)
  rw [List.nil_append] at hy
  refine runF_ret (r := [some (.str T), some (.lst (sumsN T)), y]) ?_
  show F_law_sums [some (.str T), none, none] = _
  have l1 : 1 ≤ lim := limS (by omega)
  have efor : sFor (fIt (fVar 0)) (gfN 2) (sApp 1 (fOp opAdd (fOwnIx 1 (fUn unNeg (fC (.int 1)))) (fCall bInt (fCons (fOp opEq (fVar 2) (fC (.str [49]))) fNil)))) [some (.str T), some (.lst [.int 0]), none] = .nx [some (.str T), some (.lst (sumsN T)), y] := by
    unfold sFor
    have e0 : fIt (fVar 0) [some (.str T), some (.lst [.int 0]), none] = .ok (T.map fun c => .str [c]) [some (.str T), some (.lst [.int 0]), none] := by
      simp [runF, runR, start0, sRet, sSeq, sIf, sSet, sSetL, sPar, sParL, sAsg, sExpr, sSetIx, sApp, sAug, sNx, sBad, sBk, sRetN, thenS, fVar, fC, fOp, fUn, fTst, fNot, fAnd, fOr, fIf, fNil, fCons, fTup, fCall, fAndV, fOrV, fChain, fIsi, fIsi2, isTy, fSl, fNoPart, fPart, fM1, fCallF, fOwnIx, fRow, fOfL, fLstL, gfN, gfT, gfC, gfNil, Out.bind, ofO, opCmp, opIx, opAdd, opSub, unNeg, unNot, opSl, bLen, bInt, fIt, itemsOf]
    rw [e0]
    exact hy
  unfold F_law_sums
  generalize sFor (fIt (fVar 0)) (gfN 2) (sApp 1 (fOp opAdd (fOwnIx 1 (fUn unNeg (fC (.int 1)))) (fCall bInt (fCons (fOp opEq (fVar 2) (fC (.str [49]))) fNil)))) = ff at *
  simp only [runF, runR, start0, sRet, sSeq, sIf, sSet, sSetL, sPar, sParL, sAsg, sExpr, sSetIx, sApp, sAug, sNx, sBad, sBk, sRetN, thenS, fVar, fC, fOp, fUn, fTst, fNot, fAnd, fOr, fIf, fNil, fCons, fTup, fCall, fAndV, fOrV, fChain, fIsi, fIsi2, isTy, fSl, fNoPart, fPart, fM1, fCallF, fOwnIx, fRow, fOfL, fLstL, gfN, gfT, gfC, gfNil, Out.bind, ofO, opCmp, opIx, opAdd, opSub, unNeg, unNot, opSl, bLen, bInt, List.getElem?_cons_zero, List.getElem?_cons_succ, List.getElem?_nil, List.set_cons_zero, List.set_cons_succ, List.map_cons, List.map_nil, List.length_cons, List.length_nil, List.replicate_succ, List.replicate_zero, List.cons_append, List.nil_append, List.append_nil, if_true, if_false, ite_true, ite_false, reduceIte, Nat.reduceAdd, Nat.reduceSub, Nat.reduceLeDiff, Bool.not_true, Bool.not_false, Bool.false_eq_true, decide_true, decide_false, Option.map_some, Option.bind_some, Nat.zero_add, Nat.le_refl, String.reduceBEq, Bool.or_false, Bool.or_self, Bool.or_true, Bool.false_or, Bool.true_or, if_pos l1, efor, Nat.reduceLT, show (1 : Nat) < 3 from by decide]
/-! alike: a thing and itself -/
theorem alike_int (n : Nat) (i : Int) : m_law_alike (n + 1) [.int i, .int i] = .ok (.bl true) := by
  refine runF_ret (r := [some (.int i), some (.int i), none]) ?_
  show F_law_alike (m_law_alike n) [some (.int i), some (.int i), none] = _
  unfold F_law_alike
  simp only [runF, runR, start0, sRet, sSeq, sIf, sSet, sSetL, sPar, sParL, sAsg, sExpr, sSetIx, sApp, sAug, sNx, sBad, sBk, sRetN, thenS, fVar, fC, fOp, fUn, fTst, fNot, fAnd, fOr, fIf, fNil, fCons, fTup, fCall, fAndV, fOrV, fChain, fIsi, fIsi2, isTy, fSl, fNoPart, fPart, fM1, fCallF, fOwnIx, fRow, fOfL, fLstL, gfN, gfT, gfC, gfNil, Out.bind, ofO, opCmp, opIx, opAdd, opSub, unNeg, unNot, opSl, bLen, bInt, List.getElem?_cons_zero, List.getElem?_cons_succ, List.getElem?_nil, List.set_cons_zero, List.set_cons_succ, List.map_cons, List.map_nil, List.length_cons, List.length_nil, List.replicate_succ, List.replicate_zero, List.cons_append, List.nil_append, List.append_nil, if_true, if_false, ite_true, ite_false, reduceIte, Nat.reduceAdd, Nat.reduceSub, Nat.reduceLeDiff, Bool.not_true, Bool.not_false, Bool.false_eq_true, decide_true, decide_false, Option.map_some, Option.bind_some, Nat.zero_add, Nat.le_refl, String.reduceBEq, Bool.or_false, Bool.or_self, Bool.or_true, Bool.false_or, Bool.true_or, Bool.or_false, Bool.or_self, opIs, isNon, eqB, eqI, beq_self_eq_true]
theorem alike_non (n : Nat) : m_law_alike (n + 1) [.non, .non] = .ok (.bl true) := by
  refine runF_ret (r := [some .non, some .non, none]) ?_
  show F_law_alike (m_law_alike n) [some .non, some .non, none] = _
  unfold F_law_alike
  rfl
theorem compP_none {tgt : FG} {c : FT} {f : FE} {ρ0 : Rho} : ∀ (l : List D), (∀ x ∈ l, ∃ ρt ρ1, tgt x ρ0 = some ρt ∧ c ρt = .ok false ρ1) → compP tgt c f ρ0 l = some []
  | [], _ => rfl
  | x :: l, k => by
    obtain ⟨ρt, ρ1, h1, h2⟩ := k x List.mem_cons_self
    unfold compP
    simp only [h1, h2, compP_none l fun y hy => k y (List.mem_cons_of_mem _ hy)]
theorem alike_comp (n : Nat) (w : D) (ds : List D) (hw : w = .lst ds ∨ w = .tup ds) (hl : ds.length ≤ 1000) (h : ∀ d ∈ ds, m_law_alike n [d, d] = .ok (.bl true)) :
    fComp [2] (fRng1 (fCall bLen (fCons (fVar 1) fNil))) (gfN 2) (fNot (fTst (fCallF (m_law_alike n) (fCons (fOp opIx (fVar 0) (fVar 2)) (fCons (fOp opIx (fVar 1) (fVar 2)) fNil))))) (fVar 2) [some w, some w, none] = .ok [] [some w, some w, none] := by
  have e4 : ((ds.length : Nat) : Int).natAbs ≤ lim := limS (by omega)
  have e0 : fRng1 (fCall bLen (fCons (fVar 1) fNil)) [some w, some w, none] = .ok (numD 0 ds.length) [some w, some w, none] := by
    rcases hw with rfl | rfl
    · simp only [runF, runR, start0, sRet, sSeq, sIf, sSet, sSetL, sPar, sParL, sAsg, sExpr, sSetIx, sApp, sAug, sNx, sBad, sBk, sRetN, thenS, fVar, fC, fOp, fUn, fTst, fNot, fAnd, fOr, fIf, fNil, fCons, fTup, fCall, fAndV, fOrV, fChain, fIsi, fIsi2, isTy, fSl, fNoPart, fPart, fM1, fCallF, fOwnIx, fRow, fOfL, fLstL, gfN, gfT, gfC, gfNil, Out.bind, ofO, opCmp, opIx, opAdd, opSub, unNeg, unNot, opSl, bLen, bInt, List.getElem?_cons_zero, List.getElem?_cons_succ, List.getElem?_nil, List.set_cons_zero, List.set_cons_succ, List.map_cons, List.map_nil, List.length_cons, List.length_nil, List.replicate_succ, List.replicate_zero, List.cons_append, List.nil_append, List.append_nil, if_true, if_false, ite_true, ite_false, reduceIte, Nat.reduceAdd, Nat.reduceSub, Nat.reduceLeDiff, Bool.not_true, Bool.not_false, Bool.false_eq_true, decide_true, decide_false, Option.map_some, Option.bind_some, Nat.zero_add, Nat.le_refl, String.reduceBEq, Bool.or_false, Bool.or_self, Bool.or_true, Bool.false_or, Bool.true_or, fRng1, if_pos e4, Int.toNat_natCast]
    · simp only [runF, runR, start0, sRet, sSeq, sIf, sSet, sSetL, sPar, sParL, sAsg, sExpr, sSetIx, sApp, sAug, sNx, sBad, sBk, sRetN, thenS, fVar, fC, fOp, fUn, fTst, fNot, fAnd, fOr, fIf, fNil, fCons, fTup, fCall, fAndV, fOrV, fChain, fIsi, fIsi2, isTy, fSl, fNoPart, fPart, fM1, fCallF, fOwnIx, fRow, fOfL, fLstL, gfN, gfT, gfC, gfNil, Out.bind, ofO, opCmp, opIx, opAdd, opSub, unNeg, unNot, opSl, bLen, bInt, List.getElem?_cons_zero, List.getElem?_cons_succ, List.getElem?_nil, List.set_cons_zero, List.set_cons_succ, List.map_cons, List.map_nil, List.length_cons, List.length_nil, List.replicate_succ, List.replicate_zero, List.cons_append, List.nil_append, List.append_nil, if_true, if_false, ite_true, ite_false, reduceIte, Nat.reduceAdd, Nat.reduceSub, Nat.reduceLeDiff, Bool.not_true, Bool.not_false, Bool.false_eq_true, decide_true, decide_false, Option.map_some, Option.bind_some, Nat.zero_add, Nat.le_refl, String.reduceBEq, Bool.or_false, Bool.or_self, Bool.or_true, Bool.false_or, Bool.true_or, fRng1, if_pos e4, Int.toNat_natCast]
  unfold fComp
  rw [e0, Out.bind_ok, if_pos (by rw [numD_len]; exact limS (by omega)), compP_none]
  · rfl
  · intro x hx
    rw [numD_map] at hx
    obtain ⟨i, hi, rfl⟩ := List.mem_map.mp hx
    have hi := List.mem_range.mp hi
    have hg : ds[i]? = some ds[i] := List.getElem?_eq_getElem hi
    have e1 : L2.atI ds (0 + (i : Int)) = some ds[i] := by
      rw [Int.zero_add]
      exact ix_nat hg
    have e2 := h _ (List.getElem_mem hi)
    refine ⟨[some w, some w, some (.int (0 + (i : Int)))], [some w, some w, some (.int (0 + (i : Int)))], rfl, ?_⟩
    rcases hw with rfl | rfl
    · simp only [runF, runR, start0, sRet, sSeq, sIf, sSet, sSetL, sPar, sParL, sAsg, sExpr, sSetIx, sApp, sAug, sNx, sBad, sBk, sRetN, thenS, fVar, fC, fOp, fUn, fTst, fNot, fAnd, fOr, fIf, fNil, fCons, fTup, fCall, fAndV, fOrV, fChain, fIsi, fIsi2, isTy, fSl, fNoPart, fPart, fM1, fCallF, fOwnIx, fRow, fOfL, fLstL, gfN, gfT, gfC, gfNil, Out.bind, ofO, opCmp, opIx, opAdd, opSub, unNeg, unNot, opSl, bLen, bInt, List.getElem?_cons_zero, List.getElem?_cons_succ, List.getElem?_nil, List.set_cons_zero, List.set_cons_succ, List.map_cons, List.map_nil, List.length_cons, List.length_nil, List.replicate_succ, List.replicate_zero, List.cons_append, List.nil_append, List.append_nil, if_true, if_false, ite_true, ite_false, reduceIte, Nat.reduceAdd, Nat.reduceSub, Nat.reduceLeDiff, Bool.not_true, Bool.not_false, Bool.false_eq_true, decide_true, decide_false, Option.map_some, Option.bind_some, Nat.zero_add, Nat.le_refl, String.reduceBEq, Bool.or_false, Bool.or_self, Bool.or_true, Bool.false_or, Bool.true_or, e1, e2]
    · simp only [runF, runR, start0, sRet, sSeq, sIf, sSet, sSetL, sPar, sParL, sAsg, sExpr, sSetIx, sApp, sAug, sNx, sBad, sBk, sRetN, thenS, fVar, fC, fOp, fUn, fTst, fNot, fAnd, fOr, fIf, fNil, fCons, fTup, fCall, fAndV, fOrV, fChain, fIsi, fIsi2, isTy, fSl, fNoPart, fPart, fM1, fCallF, fOwnIx, fRow, fOfL, fLstL, gfN, gfT, gfC, gfNil, Out.bind, ofO, opCmp, opIx, opAdd, opSub, unNeg, unNot, opSl, bLen, bInt, List.getElem?_cons_zero, List.getElem?_cons_succ, List.getElem?_nil, List.set_cons_zero, List.set_cons_succ, List.map_cons, List.map_nil, List.length_cons, List.length_nil, List.replicate_succ, List.replicate_zero, List.cons_append, List.nil_append, List.append_nil, if_true, if_false, ite_true, ite_false, reduceIte, Nat.reduceAdd, Nat.reduceSub, Nat.reduceLeDiff, Bool.not_true, Bool.not_false, Bool.false_eq_true, decide_true, decide_false, Option.map_some, Option.bind_some, Nat.zero_add, Nat.le_refl, String.reduceBEq, Bool.or_false, Bool.or_self, Bool.or_true, Bool.false_or, Bool.true_or, e1, e2]
theorem alike_seq (n : Nat) (w : D) (ds : List D) (hw : w = .lst ds ∨ w = .tup ds) (hl : ds.length ≤ 1000) (h : ∀ d ∈ ds, m_law_alike n [d, d] = .ok (.bl true)) : m_law_alike (n + 1) [w, w] = .ok (.bl true) := by
  have hc := alike_comp n w ds hw hl h
  have hz : opEq (.lst []) (.lst []) = some (.bl true) := rfl
  have l0 : 0 ≤ lim := limS (by omega)
  refine runF_ret (r := [some w, some w, none]) ?_
  show F_law_alike (m_law_alike n) [some w, some w, none] = _
  unfold F_law_alike
  generalize fComp [2] (fRng1 (fCall bLen (fCons (fVar 1) fNil))) (gfN 2) (fNot (fTst (fCallF (m_law_alike n) (fCons (fOp opIx (fVar 0) (fVar 2)) (fCons (fOp opIx (fVar 1) (fVar 2)) fNil))))) (fVar 2) = ff at *
  rcases hw with rfl | rfl
  · simp only [runF, runR, start0, sRet, sSeq, sIf, sSet, sSetL, sPar, sParL, sAsg, sExpr, sSetIx, sApp, sAug, sNx, sBad, sBk, sRetN, thenS, fVar, fC, fOp, fUn, fTst, fNot, fAnd, fOr, fIf, fNil, fCons, fTup, fCall, fAndV, fOrV, fChain, fIsi, fIsi2, isTy, fSl, fNoPart, fPart, fM1, fCallF, fOwnIx, fRow, fOfL, fLstL, gfN, gfT, gfC, gfNil, Out.bind, ofO, opCmp, opIx, opAdd, opSub, unNeg, unNot, opSl, bLen, bInt, List.getElem?_cons_zero, List.getElem?_cons_succ, List.getElem?_nil, List.set_cons_zero, List.set_cons_succ, List.map_cons, List.map_nil, List.length_cons, List.length_nil, List.replicate_succ, List.replicate_zero, List.cons_append, List.nil_append, List.append_nil, if_true, if_false, ite_true, ite_false, reduceIte, Nat.reduceAdd, Nat.reduceSub, Nat.reduceLeDiff, Bool.not_true, Bool.not_false, Bool.false_eq_true, decide_true, decide_false, Option.map_some, Option.bind_some, Nat.zero_add, Nat.le_refl, String.reduceBEq, Bool.or_false, Bool.or_self, Bool.or_true, Bool.false_or, Bool.true_or, Bool.false_or, Bool.or_false, neB, neI, beq_self_eq_true, hc, hz, if_pos l0]
  · simp only [runF, runR, start0, sRet, sSeq, sIf, sSet, sSetL, sPar, sParL, sAsg, sExpr, sSetIx, sApp, sAug, sNx, sBad, sBk, sRetN, thenS, fVar, fC, fOp, fUn, fTst, fNot, fAnd, fOr, fIf, fNil, fCons, fTup, fCall, fAndV, fOrV, fChain, fIsi, fIsi2, isTy, fSl, fNoPart, fPart, fM1, fCallF, fOwnIx, fRow, fOfL, fLstL, gfN, gfT, gfC, gfNil, Out.bind, ofO, opCmp, opIx, opAdd, opSub, unNeg, unNot, opSl, bLen, bInt, List.getElem?_cons_zero, List.getElem?_cons_succ, List.getElem?_nil, List.set_cons_zero, List.set_cons_succ, List.map_cons, List.map_nil, List.length_cons, List.length_nil, List.replicate_succ, List.replicate_zero, List.cons_append, List.nil_append, List.append_nil, if_true, if_false, ite_true, ite_false, reduceIte, Nat.reduceAdd, Nat.reduceSub, Nat.reduceLeDiff, Bool.not_true, Bool.not_false, Bool.false_eq_true, decide_true, decide_false, Option.map_some, Option.bind_some, Nat.zero_add, Nat.le_refl, String.reduceBEq, Bool.or_false, Bool.or_self, Bool.or_true, Bool.false_or, Bool.true_or, Bool.true_or, Bool.or_false, neB, neI, beq_self_eq_true, hc, hz, if_pos l0]
/-! gcd -/
theorem gcd_loop : ∀ (ds : List D) (a b : Nat) (x : Option D), a < 1073741824 → b < 1073741824 → b < ds.length → ∃ y z, loopF (gfN 2) (sSeq (sIf (fTst (fOp opEq (fVar 1) (fC (.int 0)))) sBk sNx) (sPar 0 1 (fVar 1) (fOp opSub (fVar 0) (fOp opMul (fOp opDiv (fVar 0) (fVar 1)) (fVar 1))))) ds [some (.int (a : Int)), some (.int (b : Int)), x] = .nx [some (.int ((Nat.gcd a b : Nat) : Int)), y, z]
  | [], a, b, x, _, _, h => by simp at h
  | d :: ds, a, b, x, ha, hb, h => by
    unfold loopF
    have e2 : gfN 2 d [some (.int (a : Int)), some (.int (b : Int)), x] = some [some (.int (a : Int)), some (.int (b : Int)), some d] := rfl
    simp only [e2]
    by_cases q : b = 0
    · subst q
      refine ⟨some (.int ((0 : Nat) : Int)), some d, ?_⟩
      rw [Nat.gcd_zero_right]
      simp only [runF, runR, start0, sRet, sSeq, sIf, sSet, sSetL, sPar, sParL, sAsg, sExpr, sSetIx, sApp, sAug, sNx, sBad, sBk, sRetN, thenS, fVar, fC, fOp, fUn, fTst, fNot, fAnd, fOr, fIf, fNil, fCons, fTup, fCall, fAndV, fOrV, fChain, fIsi, fIsi2, isTy, fSl, fNoPart, fPart, fM1, fCallF, fOwnIx, fRow, fOfL, fLstL, gfN, gfT, gfC, gfNil, Out.bind, ofO, opCmp, opIx, opAdd, opSub, unNeg, unNot, opSl, bLen, bInt, List.getElem?_cons_zero, List.getElem?_cons_succ, List.getElem?_nil, List.set_cons_zero, List.set_cons_succ, List.map_cons, List.map_nil, List.length_cons, List.length_nil, List.replicate_succ, List.replicate_zero, List.cons_append, List.nil_append, List.append_nil, if_true, if_false, ite_true, ite_false, reduceIte, Nat.reduceAdd, Nat.reduceSub, Nat.reduceLeDiff, Bool.not_true, Bool.not_false, Bool.false_eq_true, decide_true, decide_false, Option.map_some, Option.bind_some, Nat.zero_add, Nat.le_refl, String.reduceBEq, Bool.or_false, Bool.or_self, Bool.or_true, Bool.false_or, Bool.true_or, eqI, show ((((0 : Nat) : Int)) == 0) = true from rfl]
    · have q1 : (((b : Nat) : Int) == 0) = false := beq_eq_false_iff_ne.mpr (by omega)
      have em : opMul (.int ((a / b : Nat) : Int)) (.int (b : Int)) = some (.int ((a / b * b : Nat) : Int)) := by
        rw [mulI (.inr (by omega))]
        exact congrArg (fun z => some (D.int z)) (Int.natCast_mul _ _).symm
      have e5 : ((a : Nat) : Int) - ((a / b * b : Nat) : Int) = ((a % b : Nat) : Int) := by
        have := Nat.div_add_mod a b
        rw [Nat.mul_comm] at this
        omega
      have hlt : a % b < b := Nat.mod_lt _ (by omega)
      obtain ⟨y, z, hy⟩ := gcd_loop ds b (a % b) (some d) hb (by omega) (by rw [List.length_cons] at h; omega)
      refine ⟨y, z, ?_⟩
      rw [show Nat.gcd a b = Nat.gcd b (a % b) by rw [Nat.gcd_comm a b, Nat.gcd_rec b a, Nat.gcd_comm]]
      rw [← hy]
      simp only [runF, runR, start0, sRet, sSeq, sIf, sSet, sSetL, sPar, sParL, sAsg, sExpr, sSetIx, sApp, sAug, sNx, sBad, sBk, sRetN, thenS, fVar, fC, fOp, fUn, fTst, fNot, fAnd, fOr, fIf, fNil, fCons, fTup, fCall, fAndV, fOrV, fChain, fIsi, fIsi2, isTy, fSl, fNoPart, fPart, fM1, fCallF, fOwnIx, fRow, fOfL, fLstL, gfN, gfT, gfC, gfNil, Out.bind, ofO, opCmp, opIx, opAdd, opSub, unNeg, unNot, opSl, bLen, bInt, List.getElem?_cons_zero, List.getElem?_cons_succ, List.getElem?_nil, List.set_cons_zero, List.set_cons_succ, List.map_cons, List.map_nil, List.length_cons, List.length_nil, List.replicate_succ, List.replicate_zero, List.cons_append, List.nil_append, List.append_nil, if_true, if_false, ite_true, ite_false, reduceIte, Nat.reduceAdd, Nat.reduceSub, Nat.reduceLeDiff, Bool.not_true, Bool.not_false, Bool.false_eq_true, decide_true, decide_false, Option.map_some, Option.bind_some, Nat.zero_add, Nat.le_refl, String.reduceBEq, Bool.or_false, Bool.or_self, Bool.or_true, Bool.false_or, Bool.true_or, eqI, q1, divN q hb, em, e5]
theorem law_gcd_ok (a b : Nat) (h : a + b ≤ 100000) : m_law_gcd [.int (a : Int), .int (b : Int)] = .ok (.int ((Nat.gcd a b : Nat) : Int)) := by
  obtain ⟨y, z, hy⟩ := gcd_loop (numD 0 (a + b + 1)) a b none (by omega) (by omega) (by rw [numD_len]; omega)
  refine runF_ret (r := [some (.int ((Nat.gcd a b : Nat) : Int)), y, z]) ?_
  show F_law_gcd [some (.int (a : Int)), some (.int (b : Int)), none] = _
  have e4 : ((a : Int) + (b : Int) + 1).natAbs ≤ lim := limS (by omega)
  have e3 : ((a : Int) + (b : Int) + 1).toNat = a + b + 1 := by omega
  have efor : sFor (fRng1 (fOp opAdd (fOp opAdd (fVar 0) (fVar 1)) (fC (.int 1)))) (gfN 2) (sSeq (sIf (fTst (fOp opEq (fVar 1) (fC (.int 0)))) sBk sNx) (sPar 0 1 (fVar 1) (fOp opSub (fVar 0) (fOp opMul (fOp opDiv (fVar 0) (fVar 1)) (fVar 1))))) [some (.int (a : Int)), some (.int (b : Int)), none] = .nx [some (.int ((Nat.gcd a b : Nat) : Int)), y, z] := by
    unfold sFor
    have e0 : fRng1 (fOp opAdd (fOp opAdd (fVar 0) (fVar 1)) (fC (.int 1))) [some (.int (a : Int)), some (.int (b : Int)), none] = .ok (numD 0 (a + b + 1)) [some (.int (a : Int)), some (.int (b : Int)), none] := by
      simp only [runF, runR, start0, sRet, sSeq, sIf, sSet, sSetL, sPar, sParL, sAsg, sExpr, sSetIx, sApp, sAug, sNx, sBad, sBk, sRetN, thenS, fVar, fC, fOp, fUn, fTst, fNot, fAnd, fOr, fIf, fNil, fCons, fTup, fCall, fAndV, fOrV, fChain, fIsi, fIsi2, isTy, fSl, fNoPart, fPart, fM1, fCallF, fOwnIx, fRow, fOfL, fLstL, gfN, gfT, gfC, gfNil, Out.bind, ofO, opCmp, opIx, opAdd, opSub, unNeg, unNot, opSl, bLen, bInt, List.getElem?_cons_zero, List.getElem?_cons_succ, List.getElem?_nil, List.set_cons_zero, List.set_cons_succ, List.map_cons, List.map_nil, List.length_cons, List.length_nil, List.replicate_succ, List.replicate_zero, List.cons_append, List.nil_append, List.append_nil, if_true, if_false, ite_true, ite_false, reduceIte, Nat.reduceAdd, Nat.reduceSub, Nat.reduceLeDiff, Bool.not_true, Bool.not_false, Bool.false_eq_true, decide_true, decide_false, Option.map_some, Option.bind_some, Nat.zero_add, Nat.le_refl, String.reduceBEq, Bool.or_false, Bool.or_self, Bool.or_true, Bool.false_or, Bool.true_or, fRng1, if_pos e4, e3]
    rw [e0]
    exact hy
  unfold F_law_gcd
  generalize sFor (fRng1 (fOp opAdd (fOp opAdd (fVar 0) (fVar 1)) (fC (.int 1)))) (gfN 2) (sSeq (sIf (fTst (fOp opEq (fVar 1) (fC (.int 0)))) sBk sNx) (sPar 0 1 (fVar 1) (fOp opSub (fVar 0) (fOp opMul (fOp opDiv (fVar 0) (fVar 1)) (fVar 1))))) = ff at *
  simp only [runF, runR, start0, sRet, sSeq, sIf, sSet, sSetL, sPar, sParL, sAsg, sExpr, sSetIx, sApp, sAug, sNx, sBad, sBk, sRetN, thenS, fVar, fC, fOp, fUn, fTst, fNot, fAnd, fOr, fIf, fNil, fCons, fTup, fCall, fAndV, fOrV, fChain, fIsi, fIsi2, isTy, fSl, fNoPart, fPart, fM1, fCallF, fOwnIx, fRow, fOfL, fLstL, gfN, gfT, gfC, gfNil, Out.bind, ofO, opCmp, opIx, opAdd, opSub, unNeg, unNot, opSl, bLen, bInt, List.getElem?_cons_zero, List.getElem?_cons_succ, List.getElem?_nil, List.set_cons_zero, List.set_cons_succ, List.map_cons, List.map_nil, List.length_cons, List.length_nil, List.replicate_succ, List.replicate_zero, List.cons_append, List.nil_append, List.append_nil, if_true, if_false, ite_true, ite_false, reduceIte, Nat.reduceAdd, Nat.reduceSub, Nat.reduceLeDiff, Bool.not_true, Bool.not_false, Bool.false_eq_true, decide_true, decide_false, Option.map_some, Option.bind_some, Nat.zero_add, Nat.le_refl, String.reduceBEq, Bool.or_false, Bool.or_self, Bool.or_true, Bool.false_or, Bool.true_or, efor]
end Lw

namespace Lw
open PySem PySem.Spec PyProof PyProof.Rows DL ES
/-! the script's reader -/
def rowD (ns : List Int) (k st rem : Int) : List D := [.fl (ns.map .int), .int k, .int st, .int rem]
theorem a40 (a b c d : D) : L2.atI [a, b, c, d] 0 = some a := rfl
theorem a41 (a b c d : D) : L2.atI [a, b, c, d] 1 = some b := rfl
theorem a42 (a b c d : D) : L2.atI [a, b, c, d] 2 = some c := rfl
theorem a43 (a b c d : D) : L2.atI [a, b, c, d] 3 = some d := rfl
theorem x41 : L2.ixN 4 1 = some 1 := rfl
theorem x42 : L2.ixN 4 2 = some 2 := rfl
theorem x43 : L2.ixN 4 3 = some 3 := rfl
theorem pow18 : opPow (.int 10) (.int 18) = some (.int 1000000000000000000) := rfl
theorem fmod_bd (i : Int) {m : Nat} (h : 0 < m) : ∃ v : Nat, v < m ∧ i.fmod (m : Int) = (v : Int) := by
  rw [Int.fmod_eq_emod_of_nonneg _ (by omega)]
  have h1 := Int.emod_nonneg i (show (m : Int) ≠ 0 by omega)
  have h2 := Int.emod_lt_of_pos i (show (0 : Int) < (m : Int) by omega)
  exact ⟨(i % (m : Int)).toNat, by omega, by omega⟩
theorem taken_ok (ns : List Int) (k st rem : Int) {m : Nat} (hk : 0 ≤ k) (hm : 0 < m) (hm2 : m < 1000000) : ∃ (v : Nat) (k' st' rem' : Int), v < m ∧ 0 ≤ k' ∧ m_law_taken (rowD ns k st rem) [.int (m : Int)] = .ok (.int (v : Int)) (rowD ns k' st' rem') := by
  have hm3 : ((m : Nat) : Int) ≠ 0 := by omega
  have hm4 : ((m : Nat) : Int).natAbs < 1073741824 := by omega
  by_cases hr : 0 < rem
  · obtain ⟨v, hv, ev⟩ := fmod_bd rem hm
    refine ⟨v, k, st, rem.fdiv (m : Int), hv, hk, runR_ret (r := [some (.int (m : Int)), some (.int (v : Int)), none]) ?_⟩
    show F_law_taken [some (.lst (rowD ns k st rem)), some (.int (m : Int)), none, none] = _
    unfold F_law_taken rowD
    simp only [runF, runR, start0, sRet, sSeq, sIf, sSet, sSetL, sPar, sParL, sAsg, sExpr, sSetIx, sApp, sAug, sNx, sBad, sBk, sRetN, thenS, fVar, fC, fOp, fUn, fTst, fNot, fAnd, fOr, fIf, fNil, fCons, fTup, fCall, fAndV, fOrV, fChain, fIsi, fIsi2, isTy, fSl, fNoPart, fPart, fM1, fCallF, fOwnIx, fRow, fOfL, fLstL, gfN, gfT, gfC, gfNil, Out.bind, ofO, opCmp, opIx, opAdd, opSub, unNeg, unNot, opSl, bLen, bInt, List.getElem?_cons_zero, List.getElem?_cons_succ, List.getElem?_nil, List.set_cons_zero, List.set_cons_succ, List.map_cons, List.map_nil, List.length_cons, List.length_nil, List.replicate_succ, List.replicate_zero, List.cons_append, List.nil_append, List.append_nil, if_true, if_false, ite_true, ite_false, reduceIte, Nat.reduceAdd, Nat.reduceSub, Nat.reduceLeDiff, Bool.not_true, Bool.not_false, Bool.false_eq_true, decide_true, decide_false, Option.map_some, Option.bind_some, Nat.zero_add, Nat.le_refl, String.reduceBEq, Bool.or_false, Bool.or_self, Bool.or_true, Bool.false_or, Bool.true_or, a43, decide_eq_true hr, modI hm3, ev, divI hm3 hm4, x43]
  · by_cases hlen : (ns.length : Int) < k + 1
    · have e1 := fmod_bd (st * 48271 + 11) (show 0 < 2147483647 by decide)
      obtain ⟨w, _, ew⟩ := e1
      obtain ⟨v, hv, ev⟩ := fmod_bd ((w : Int).fdiv 7) hm
      refine ⟨v, k + 1, w, rem, hv, by omega, runR_ret (r := [some (.int (m : Int)), none, none]) ?_⟩
      show F_law_taken [some (.lst (rowD ns k st rem)), some (.int (m : Int)), none, none] = _
      have ew : (st * 48271 + 11).fmod 2147483647 = (w : Int) := ew
      have em : opMul (.int st) (.int 48271) = some (.int (st * 48271)) := mulI (.inr (by decide))
      have ed : opDiv (.int (w : Int)) (.int 7) = some (.int ((w : Int).fdiv 7)) := divI (by decide) (by decide)
      have emo : opMod (.int (st * 48271 + 11)) (.int 2147483647) = some (.int (w : Int)) := by rw [modI (by decide), ew]
      unfold F_law_taken rowD
      simp only [runF, runR, start0, sRet, sSeq, sIf, sSet, sSetL, sPar, sParL, sAsg, sExpr, sSetIx, sApp, sAug, sNx, sBad, sBk, sRetN, thenS, fVar, fC, fOp, fUn, fTst, fNot, fAnd, fOr, fIf, fNil, fCons, fTup, fCall, fAndV, fOrV, fChain, fIsi, fIsi2, isTy, fSl, fNoPart, fPart, fM1, fCallF, fOwnIx, fRow, fOfL, fLstL, gfN, gfT, gfC, gfNil, Out.bind, ofO, opCmp, opIx, opAdd, opSub, unNeg, unNot, opSl, bLen, bInt, List.getElem?_cons_zero, List.getElem?_cons_succ, List.getElem?_nil, List.set_cons_zero, List.set_cons_succ, List.map_cons, List.map_nil, List.length_cons, List.length_nil, List.replicate_succ, List.replicate_zero, List.cons_append, List.nil_append, List.append_nil, if_true, if_false, ite_true, ite_false, reduceIte, Nat.reduceAdd, Nat.reduceSub, Nat.reduceLeDiff, Bool.not_true, Bool.not_false, Bool.false_eq_true, decide_true, decide_false, Option.map_some, Option.bind_some, Nat.zero_add, Nat.le_refl, String.reduceBEq, Bool.or_false, Bool.or_self, Bool.or_true, Bool.false_or, Bool.true_or, a40, a41, a42, a43, decide_eq_false hr, modI hm3, ev, x41, x42, List.length_map, decide_eq_true hlen, em, emo, ed]
    · have hi : k.toNat < ns.length := by omega
      have hx : (ns.map D.int)[k.toNat]? = some (.int (ns[k.toNat])) := by
        rw [List.getElem?_map, List.getElem?_eq_getElem hi]
        rfl
      generalize ns[k.toNat] = cell at *
      have ex : L2.atI (ns.map D.int) (k + 1 - 1) = some (.int cell) := by
        rw [show k + 1 - 1 = k by omega]
        exact ix_int hk hx
      obtain ⟨w, _, ew⟩ := fmod_bd (st * 48271 + cell + 11) (show 0 < 2147483647 by decide)
      obtain ⟨v, hv, ev⟩ := fmod_bd cell hm
      have ew : (st * 48271 + cell + 11).fmod 2147483647 = (w : Int) := ew
      have em : opMul (.int st) (.int 48271) = some (.int (st * 48271)) := mulI (.inr (by decide))
      have emo : opMod (.int (st * 48271 + cell + 11)) (.int 2147483647) = some (.int (w : Int)) := by rw [modI (by decide), ew]
      by_cases hb : (1000000000000000000 : Int) ≤ cell
      · refine ⟨v, k + 1, w, cell.fdiv (m : Int), hv, by omega, runR_ret (r := [some (.int (m : Int)), none, some (.int cell)]) ?_⟩
        show F_law_taken [some (.lst (rowD ns k st rem)), some (.int (m : Int)), none, none] = _
        unfold F_law_taken rowD
        simp only [runF, runR, start0, sRet, sSeq, sIf, sSet, sSetL, sPar, sParL, sAsg, sExpr, sSetIx, sApp, sAug, sNx, sBad, sBk, sRetN, thenS, fVar, fC, fOp, fUn, fTst, fNot, fAnd, fOr, fIf, fNil, fCons, fTup, fCall, fAndV, fOrV, fChain, fIsi, fIsi2, isTy, fSl, fNoPart, fPart, fM1, fCallF, fOwnIx, fRow, fOfL, fLstL, gfN, gfT, gfC, gfNil, Out.bind, ofO, opCmp, opIx, opAdd, opSub, unNeg, unNot, opSl, bLen, bInt, List.getElem?_cons_zero, List.getElem?_cons_succ, List.getElem?_nil, List.set_cons_zero, List.set_cons_succ, List.map_cons, List.map_nil, List.length_cons, List.length_nil, List.replicate_succ, List.replicate_zero, List.cons_append, List.nil_append, List.append_nil, if_true, if_false, ite_true, ite_false, reduceIte, Nat.reduceAdd, Nat.reduceSub, Nat.reduceLeDiff, Bool.not_true, Bool.not_false, Bool.false_eq_true, decide_true, decide_false, Option.map_some, Option.bind_some, Nat.zero_add, Nat.le_refl, String.reduceBEq, Bool.or_false, Bool.or_self, Bool.or_true, Bool.false_or, Bool.true_or, a40, a41, a42, a43, decide_eq_false hr, modI hm3, divI hm3 hm4, ev, x41, x42, x43, List.length_map, decide_eq_false hlen, em, emo, ex, pow18, decide_eq_true hb]
      · refine ⟨v, k + 1, w, rem, hv, by omega, runR_ret (r := [some (.int (m : Int)), none, some (.int cell)]) ?_⟩
        show F_law_taken [some (.lst (rowD ns k st rem)), some (.int (m : Int)), none, none] = _
        unfold F_law_taken rowD
        simp only [runF, runR, start0, sRet, sSeq, sIf, sSet, sSetL, sPar, sParL, sAsg, sExpr, sSetIx, sApp, sAug, sNx, sBad, sBk, sRetN, thenS, fVar, fC, fOp, fUn, fTst, fNot, fAnd, fOr, fIf, fNil, fCons, fTup, fCall, fAndV, fOrV, fChain, fIsi, fIsi2, isTy, fSl, fNoPart, fPart, fM1, fCallF, fOwnIx, fRow, fOfL, fLstL, gfN, gfT, gfC, gfNil, Out.bind, ofO, opCmp, opIx, opAdd, opSub, unNeg, unNot, opSl, bLen, bInt, List.getElem?_cons_zero, List.getElem?_cons_succ, List.getElem?_nil, List.set_cons_zero, List.set_cons_succ, List.map_cons, List.map_nil, List.length_cons, List.length_nil, List.replicate_succ, List.replicate_zero, List.cons_append, List.nil_append, List.append_nil, if_true, if_false, ite_true, ite_false, reduceIte, Nat.reduceAdd, Nat.reduceSub, Nat.reduceLeDiff, Bool.not_true, Bool.not_false, Bool.false_eq_true, decide_true, decide_false, Option.map_some, Option.bind_some, Nat.zero_add, Nat.le_refl, String.reduceBEq, Bool.or_false, Bool.or_self, Bool.or_true, Bool.false_or, Bool.true_or, a40, a41, a42, a43, decide_eq_false hr, modI hm3, ev, x41, x42, x43, List.length_map, decide_eq_false hlen, em, emo, ex, pow18, decide_eq_false hb]
/-- a row as the script's reader keeps it -/
def RowOk (ns : List Int) (row : List D) : Prop := ∃ k st rem, 0 ≤ k ∧ row = rowD ns k st rem
theorem taken_row {ns : List Int} {row : List D} (h : RowOk ns row) {m : Nat} (hm : 0 < m) (hm2 : m < 1000000) : ∃ (v : Nat) (row' : List D), v < m ∧ RowOk ns row' ∧ m_law_taken row [.int (m : Int)] = .ok (.int (v : Int)) row' := by
  obtain ⟨k, st, rem, hk, rfl⟩ := h
  obtain ⟨v, k', st', rem', h1, h2, h3⟩ := taken_ok ns k st rem hk hm hm2
  exact ⟨v, _, h1, ⟨k', st', rem', h2, rfl⟩, h3⟩
/-! a word of the script -/
def eltW : FE := (fOp opIx (fC (.str [48, 49])) (fRow 0 m_law_taken (fCons (fC (.int 2)) fNil)))
theorem signs_ok {ns : List Int} (a b c : Option D) : ∀ (ds : List D) (row : List D), RowOk ns row → ∃ (l : List Nat) (row' : List D), Bt l ∧ l.length = ds.length ∧ RowOk ns row' ∧ compT [3] [0] (gfN 3) eltW ds [some (.lst row), a, b, c] = .ok (l.map fun c => .str [c]) [some (.lst row'), a, b, c]
  | [], row, h => ⟨[], row, bt_nil, rfl, h, rfl⟩
  | d :: ds, row, h => by
    obtain ⟨v, row1, h1, h2, h3⟩ := taken_row h (m := 2) (by decide) (by decide)
    have h3 : m_law_taken row [.int 2] = .ok (.int (v : Int)) row1 := h3
    obtain ⟨l, row2, k1, k2, k3, k4⟩ := signs_ok a b c ds row1 h2
    have ex : L2.atI [48, 49] (v : Int) = some (48 + v) := by
      rcases (show v = 0 ∨ v = 1 by omega) with q | q <;> subst q <;> rfl
    have l2 : 2 ≤ lim := limS (by omega)
    have he : eltW [some (.lst row), a, b, some d] = .ok (.str [48 + v]) [some (.lst row1), a, b, some d] := by
      unfold eltW
      simp only [runF, runR, start0, sRet, sSeq, sIf, sSet, sSetL, sPar, sParL, sAsg, sExpr, sSetIx, sApp, sAug, sNx, sBad, sBk, sRetN, thenS, fVar, fC, fOp, fUn, fTst, fNot, fAnd, fOr, fIf, fNil, fCons, fTup, fCall, fAndV, fOrV, fChain, fIsi, fIsi2, isTy, fSl, fNoPart, fPart, fM1, fCallF, fOwnIx, fRow, fOfL, fLstL, gfN, gfT, gfC, gfNil, Out.bind, ofO, opCmp, opIx, opAdd, opSub, unNeg, unNot, opSl, bLen, bInt, List.getElem?_cons_zero, List.getElem?_cons_succ, List.getElem?_nil, List.set_cons_zero, List.set_cons_succ, List.map_cons, List.map_nil, List.length_cons, List.length_nil, List.replicate_succ, List.replicate_zero, List.cons_append, List.nil_append, List.append_nil, if_true, if_false, ite_true, ite_false, reduceIte, Nat.reduceAdd, Nat.reduceSub, Nat.reduceLeDiff, Bool.not_true, Bool.not_false, Bool.false_eq_true, decide_true, decide_false, Option.map_some, Option.bind_some, Nat.zero_add, Nat.le_refl, String.reduceBEq, Bool.or_false, Bool.or_self, Bool.or_true, Bool.false_or, Bool.true_or, h3, ex, if_pos l2]
    refine ⟨(48 + v) :: l, row2, fun x hx => ?_, by rw [List.length_cons, List.length_cons, k2], k3, ?_⟩
    · rcases List.mem_cons.mp hx with q | q
      · omega
      · exact k1 x q
    · unfold compT
      have e1 : gfN 3 d (wipeR [some (.lst row), a, b, c] [3]) = some [some (.lst row), a, b, some d] := rfl
      have e2 : mergeR [some (.lst row), a, b, c] [some (.lst row1), a, b, some d] [0] = [some (.lst row1), a, b, c] := rfl
      simp only [e1, he, e2, k4, Out.bind, List.map_cons]
theorem word_part {ns : List Int} {row row1 : List D} (h : RowOk ns row1) (it : FA) (a b c : Option D) {n : Nat} (hn : n ≤ 1000) (e : it [some (.lst row), a, b, c] = .ok (numD 0 n) [some (.lst row1), a, b, c]) :
    ∃ (l : List Nat) (row2 : List D), Bt l ∧ l.length = n ∧ RowOk ns row2 ∧ fM1 bJoin (fC (.str [])) (fOfL (fCompT [3] [0] it (gfN 3) eltW)) [some (.lst row), a, b, c] = .ok (.str l) [some (.lst row2), a, b, c] := by
  obtain ⟨l, row2, k1, k2, k3, k4⟩ := signs_ok a b c (numD 0 n) row1 h
  rw [numD_len] at k2
  refine ⟨l, row2, k1, k2, k3, ?_⟩
  have hc : fCompT [3] [0] it (gfN 3) eltW [some (.lst row), a, b, c] = .ok (l.map fun c => .str [c]) [some (.lst row2), a, b, c] := by
    unfold fCompT
    rw [e, Out.bind_ok, if_pos (by rw [numD_len]; exact limS (by omega)), k4]
  generalize fCompT [3] [0] it (gfN 3) eltW = ff at *
  simp only [runF, runR, start0, sRet, sSeq, sIf, sSet, sSetL, sPar, sParL, sAsg, sExpr, sSetIx, sApp, sAug, sNx, sBad, sBk, sRetN, thenS, fVar, fC, fOp, fUn, fTst, fNot, fAnd, fOr, fIf, fNil, fCons, fTup, fCall, fAndV, fOrV, fChain, fIsi, fIsi2, isTy, fSl, fNoPart, fPart, fM1, fCallF, fOwnIx, fRow, fOfL, fLstL, gfN, gfT, gfC, gfNil, Out.bind, ofO, opCmp, opIx, opAdd, opSub, unNeg, unNot, opSl, bLen, bInt, List.getElem?_cons_zero, List.getElem?_cons_succ, List.getElem?_nil, List.set_cons_zero, List.set_cons_succ, List.map_cons, List.map_nil, List.length_cons, List.length_nil, List.replicate_succ, List.replicate_zero, List.cons_append, List.nil_append, List.append_nil, if_true, if_false, ite_true, ite_false, reduceIte, Nat.reduceAdd, Nat.reduceSub, Nat.reduceLeDiff, Bool.not_true, Bool.not_false, Bool.false_eq_true, decide_true, decide_false, Option.map_some, Option.bind_some, Nat.zero_add, Nat.le_refl, String.reduceBEq, Bool.or_false, Bool.or_self, Bool.or_true, Bool.false_or, Bool.true_or, hc, join_one (show l.length ≤ 1000000 by omega)]
theorem word_row {ns : List Int} {row : List D} (h : RowOk ns row) {m : Nat} (hm : 0 < m) (hm2 : m ≤ 100) : ∃ (s t : List Nat) (row' : List D), Bt s ∧ Bt t ∧ s.length < m ∧ 1 ≤ t.length ∧ t.length ≤ m ∧ RowOk ns row' ∧ m_law_word row [.int (m : Int)] = .ok (wd s t) row' := by
  obtain ⟨v, row1, h1, h2, h3⟩ := taken_row h hm (by omega)
  have l2 : (v : Int).natAbs ≤ lim := limS (by omega)
  obtain ⟨s, row2, a1, a2, a3, a4⟩ := word_part (row := row) h2 (fRng1 (fRow 0 m_law_taken (fCons (fVar 1) fNil))) (some (.int (m : Int))) none none (n := v) (by omega) (by
    simp only [runF, runR, start0, sRet, sSeq, sIf, sSet, sSetL, sPar, sParL, sAsg, sExpr, sSetIx, sApp, sAug, sNx, sBad, sBk, sRetN, thenS, fVar, fC, fOp, fUn, fTst, fNot, fAnd, fOr, fIf, fNil, fCons, fTup, fCall, fAndV, fOrV, fChain, fIsi, fIsi2, isTy, fSl, fNoPart, fPart, fM1, fCallF, fOwnIx, fRow, fOfL, fLstL, gfN, gfT, gfC, gfNil, Out.bind, ofO, opCmp, opIx, opAdd, opSub, unNeg, unNot, opSl, bLen, bInt, List.getElem?_cons_zero, List.getElem?_cons_succ, List.getElem?_nil, List.set_cons_zero, List.set_cons_succ, List.map_cons, List.map_nil, List.length_cons, List.length_nil, List.replicate_succ, List.replicate_zero, List.cons_append, List.nil_append, List.append_nil, if_true, if_false, ite_true, ite_false, reduceIte, Nat.reduceAdd, Nat.reduceSub, Nat.reduceLeDiff, Bool.not_true, Bool.not_false, Bool.false_eq_true, decide_true, decide_false, Option.map_some, Option.bind_some, Nat.zero_add, Nat.le_refl, String.reduceBEq, Bool.or_false, Bool.or_self, Bool.or_true, Bool.false_or, Bool.true_or, fRng1, h3, if_pos l2, Int.toNat_natCast])
  obtain ⟨u, row3, b1, b2, b3⟩ := taken_row a3 hm (by omega)
  have l3 : ((1 : Int) + (u : Int)).natAbs ≤ lim := limS (by omega)
  have l4 : ((1 : Int) + (u : Int)).toNat = u + 1 := by omega
  obtain ⟨t, row4, c1, c2, c3, c4⟩ := word_part (row := row2) b2 (fRng1 (fOp opAdd (fC (.int 1)) (fRow 0 m_law_taken (fCons (fVar 1) fNil)))) (some (.int (m : Int))) (some (.str s)) none (n := u + 1) (by omega) (by
    simp only [runF, runR, start0, sRet, sSeq, sIf, sSet, sSetL, sPar, sParL, sAsg, sExpr, sSetIx, sApp, sAug, sNx, sBad, sBk, sRetN, thenS, fVar, fC, fOp, fUn, fTst, fNot, fAnd, fOr, fIf, fNil, fCons, fTup, fCall, fAndV, fOrV, fChain, fIsi, fIsi2, isTy, fSl, fNoPart, fPart, fM1, fCallF, fOwnIx, fRow, fOfL, fLstL, gfN, gfT, gfC, gfNil, Out.bind, ofO, opCmp, opIx, opAdd, opSub, unNeg, unNot, opSl, bLen, bInt, List.getElem?_cons_zero, List.getElem?_cons_succ, List.getElem?_nil, List.set_cons_zero, List.set_cons_succ, List.map_cons, List.map_nil, List.length_cons, List.length_nil, List.replicate_succ, List.replicate_zero, List.cons_append, List.nil_append, List.append_nil, if_true, if_false, ite_true, ite_false, reduceIte, Nat.reduceAdd, Nat.reduceSub, Nat.reduceLeDiff, Bool.not_true, Bool.not_false, Bool.false_eq_true, decide_true, decide_false, Option.map_some, Option.bind_some, Nat.zero_add, Nat.le_refl, String.reduceBEq, Bool.or_false, Bool.or_self, Bool.or_true, Bool.false_or, Bool.true_or, fRng1, b3, if_pos l3, l4])
  refine ⟨s, t, row4, a1, c1, by omega, by omega, by omega, c3, runR_ret (r := [some (.int (m : Int)), some (.str s), none]) ?_⟩
  show F_law_word [some (.lst row), some (.int (m : Int)), none, none] = _
  have l5 : 2 ≤ lim := limS (by omega)
  unfold F_law_word
  show sSeq (sSet 2 (fM1 bJoin (fC (.str [])) (fOfL (fCompT [3] [0] _ (gfN 3) eltW)))) (sRet (fTup (fCons (fVar 2) (fCons (fM1 bJoin (fC (.str [])) (fOfL (fCompT [3] [0] _ (gfN 3) eltW))) fNil)))) _ = _
  generalize fM1 bJoin (fC (.str [])) (fOfL (fCompT [3] [0] (fRng1 (fRow 0 m_law_taken (fCons (fVar 1) fNil))) (gfN 3) eltW)) = f1 at *
  generalize fM1 bJoin (fC (.str [])) (fOfL (fCompT [3] [0] (fRng1 (fOp opAdd (fC (.int 1)) (fRow 0 m_law_taken (fCons (fVar 1) fNil)))) (gfN 3) eltW)) = f2 at *
  simp only [runF, runR, start0, sRet, sSeq, sIf, sSet, sSetL, sPar, sParL, sAsg, sExpr, sSetIx, sApp, sAug, sNx, sBad, sBk, sRetN, thenS, fVar, fC, fOp, fUn, fTst, fNot, fAnd, fOr, fIf, fNil, fCons, fTup, fCall, fAndV, fOrV, fChain, fIsi, fIsi2, isTy, fSl, fNoPart, fPart, fM1, fCallF, fOwnIx, fRow, fOfL, fLstL, gfN, gfT, gfC, gfNil, Out.bind, ofO, opCmp, opIx, opAdd, opSub, unNeg, unNot, opSl, bLen, bInt, List.getElem?_cons_zero, List.getElem?_cons_succ, List.getElem?_nil, List.set_cons_zero, List.set_cons_succ, List.map_cons, List.map_nil, List.length_cons, List.length_nil, List.replicate_succ, List.replicate_zero, List.cons_append, List.nil_append, List.append_nil, if_true, if_false, ite_true, ite_false, reduceIte, Nat.reduceAdd, Nat.reduceSub, Nat.reduceLeDiff, Bool.not_true, Bool.not_false, Bool.false_eq_true, decide_true, decide_false, Option.map_some, Option.bind_some, Nat.zero_add, Nat.le_refl, String.reduceBEq, Bool.or_false, Bool.or_self, Bool.or_true, Bool.false_or, Bool.true_or, a4, c4, if_pos l5]
theorem pick_row {ns : List Int} {row : List D} (h : RowOk ns row) (ds : List D) (hd : ds ≠ []) (hl : ds.length < 1000000) : ∃ (d : D) (row' : List D), d ∈ ds ∧ RowOk ns row' ∧ m_law_pick row [.lst ds] = .ok d row' := by
  obtain ⟨v, row1, h1, h2, h3⟩ := taken_row h (List.length_pos_iff.mpr hd) hl
  have ex : L2.atI ds (v : Int) = some ds[v] := ix_nat (List.getElem?_eq_getElem h1)
  refine ⟨ds[v], row1, List.getElem_mem h1, h2, runR_ret (r := [some (.lst ds)]) ?_⟩
  show F_law_pick [some (.lst row), some (.lst ds)] = _
  unfold F_law_pick
  simp only [runF, runR, start0, sRet, sSeq, sIf, sSet, sSetL, sPar, sParL, sAsg, sExpr, sSetIx, sApp, sAug, sNx, sBad, sBk, sRetN, thenS, fVar, fC, fOp, fUn, fTst, fNot, fAnd, fOr, fIf, fNil, fCons, fTup, fCall, fAndV, fOrV, fChain, fIsi, fIsi2, isTy, fSl, fNoPart, fPart, fM1, fCallF, fOwnIx, fRow, fOfL, fLstL, gfN, gfT, gfC, gfNil, Out.bind, ofO, opCmp, opIx, opAdd, opSub, unNeg, unNot, opSl, bLen, bInt, List.getElem?_cons_zero, List.getElem?_cons_succ, List.getElem?_nil, List.set_cons_zero, List.set_cons_succ, List.map_cons, List.map_nil, List.length_cons, List.length_nil, List.replicate_succ, List.replicate_zero, List.cons_append, List.nil_append, List.append_nil, if_true, if_false, ite_true, ite_false, reduceIte, Nat.reduceAdd, Nat.reduceSub, Nat.reduceLeDiff, Bool.not_true, Bool.not_false, Bool.false_eq_true, decide_true, decide_false, Option.map_some, Option.bind_some, Nat.zero_add, Nat.le_refl, String.reduceBEq, Bool.or_false, Bool.or_self, Bool.or_true, Bool.false_or, Bool.true_or, h3, ex]
end Lw

namespace Lw
open PySem PySem.Spec PyProof PyProof.Rows DL ES
/-! two words: their common start and round, a word of its bits -/
theorem lcm_of_ok {a b : Nat} (ha : 0 < a) (hb : 0 < b) (la : a ≤ 100000) (lb : b ≤ 100000) : m_lcm_of [.int (a : Int), .int (b : Int)] = .ok (.int ((Nat.lcm a b : Nat) : Int)) := by
  have hg : 0 < Nat.gcd a b := Nat.gcd_pos_of_pos_left _ ha
  have hg2 : Nat.gcd a b ≤ a := Nat.le_of_dvd ha (Nat.gcd_dvd_left _ _)
  have em : opMul (.int (a : Int)) (.int (b : Int)) = some (.int ((a * b : Nat) : Int)) := by
    rw [mulI (.inr (by omega))]
    exact congrArg (fun z => some (D.int z)) (Int.natCast_mul _ _).symm
  have eg : bGcd [.int (a : Int), .int (b : Int)] = some (.int ((Nat.gcd a b : Nat) : Int)) := rfl
  have ed := divN (i := a * b) (show Nat.gcd a b ≠ 0 by omega) (show Nat.gcd a b < 1073741824 by omega)
  refine runF_ret (r := [some (.int (a : Int)), some (.int (b : Int))]) ?_
  show F_lcm_of [some (.int (a : Int)), some (.int (b : Int))] = _
  unfold F_lcm_of
  rw [show Nat.lcm a b = a * b / Nat.gcd a b from rfl]
  simp only [runF, runR, start0, sRet, sSeq, sIf, sSet, sSetL, sPar, sParL, sAsg, sExpr, sSetIx, sApp, sAug, sNx, sBad, sBk, sRetN, thenS, fVar, fC, fOp, fUn, fTst, fNot, fAnd, fOr, fIf, fNil, fCons, fTup, fCall, fAndV, fOrV, fChain, fIsi, fIsi2, isTy, fSl, fNoPart, fPart, fM1, fCallF, fOwnIx, fRow, fOfL, fLstL, gfN, gfT, gfC, gfNil, Out.bind, ofO, opCmp, opIx, opAdd, opSub, unNeg, unNot, opSl, bLen, bInt, List.getElem?_cons_zero, List.getElem?_cons_succ, List.getElem?_nil, List.set_cons_zero, List.set_cons_succ, List.map_cons, List.map_nil, List.length_cons, List.length_nil, List.replicate_succ, List.replicate_zero, List.cons_append, List.nil_append, List.append_nil, if_true, if_false, ite_true, ite_false, reduceIte, Nat.reduceAdd, Nat.reduceSub, Nat.reduceLeDiff, Bool.not_true, Bool.not_false, Bool.false_eq_true, decide_true, decide_false, Option.map_some, Option.bind_some, Nat.zero_add, Nat.le_refl, String.reduceBEq, Bool.or_false, Bool.or_self, Bool.or_true, Bool.false_or, Bool.true_or, em, eg, ed]
def lensD (s t s' t' : List Nat) : D := .tup [.int ((max s.length s'.length : Nat) : Int), .int ((Nat.lcm t.length t'.length : Nat) : Int)]
theorem paired_wd {s t s' t' : List Nat} (h : Wd s t 1000) (k : Wd s' t' 1000) : m_paired [wd s t, wd s' t'] = .ok (lensD s t s' t') := by
  have l1 := h.ls
  have l2 := h.lt
  have l3 := k.ls
  have l4 := k.lt
  have e1 := lcm_of_ok h.pos k.pos (by omega) (by omega)
  have e2 : bMax2 [.int (s.length : Int), .int (s'.length : Int)] = some (.int ((max s.length s'.length : Nat) : Int)) := by
    unfold bMax2
    simp only
    congr 2
    split <;> omega
  have l5 : 2 ≤ lim := limS (by omega)
  refine runF_ret (r := [some (wd s t), some (wd s' t')]) ?_
  show F_paired [some (wd s t), some (wd s' t')] = _
  unfold F_paired
  simp only [runF, runR, start0, sRet, sSeq, sIf, sSet, sSetL, sPar, sParL, sAsg, sExpr, sSetIx, sApp, sAug, sNx, sBad, sBk, sRetN, thenS, fVar, fC, fOp, fUn, fTst, fNot, fAnd, fOr, fIf, fNil, fCons, fTup, fCall, fAndV, fOrV, fChain, fIsi, fIsi2, isTy, fSl, fNoPart, fPart, fM1, fCallF, fOwnIx, fRow, fOfL, fLstL, gfN, gfT, gfC, gfNil, Out.bind, ofO, opCmp, opIx, opAdd, opSub, unNeg, unNot, opSl, bLen, bInt, List.getElem?_cons_zero, List.getElem?_cons_succ, List.getElem?_nil, List.set_cons_zero, List.set_cons_succ, List.map_cons, List.map_nil, List.length_cons, List.length_nil, List.replicate_succ, List.replicate_zero, List.cons_append, List.nil_append, List.append_nil, if_true, if_false, ite_true, ite_false, reduceIte, Nat.reduceAdd, Nat.reduceSub, Nat.reduceLeDiff, Bool.not_true, Bool.not_false, Bool.false_eq_true, decide_true, decide_false, Option.map_some, Option.bind_some, Nat.zero_add, Nat.le_refl, String.reduceBEq, Bool.or_false, Bool.or_self, Bool.or_true, Bool.false_or, Bool.true_or, i0, i1, if_pos (limS (show s.length ≤ 1000000 by omega)), if_pos (limS (show s'.length ≤ 1000000 by omega)), if_pos (limS (show t.length ≤ 1000000 by omega)), if_pos (limS (show t'.length ≤ 1000000 by omega)), e1, e2, if_pos l5, lensD]
/-- truth values, 0 and 1 -/
def BX (x : Nat → Nat) : Prop := ∀ i, x i = 48 ∨ x i = 49
def bitsD (x : Nat → Nat) (n : Nat) : List D := (List.range n).map fun i => .bl (x i == 49)
theorem bt_w {x : Nat → Nat} (h : BX x) (a : Nat) : Bt (WT.wS x a) := fun c hc => by
  obtain ⟨i, _, e⟩ := List.mem_map.mp hc
  rw [← e]
  exact h i
theorem bt_wT {x : Nat → Nat} (h : BX x) (a p : Nat) : Bt (WT.wT x a p) := fun c hc => by
  obtain ⟨i, _, e⟩ := List.mem_map.mp hc
  rw [← e]
  exact h _
theorem wd_w {x : Nat → Nat} (h : BX x) {a p n : Nat} (hp : 0 < p) (ha : a ≤ n) (hp4 : p ≤ n) : Wd (WT.wS x a) (WT.wT x a p) n := ⟨bt_w h a, bt_wT h a p, by rw [WT.wS_len]; exact ha, by rw [WT.wT_len]; exact hp4, WT.wT_ne x a hp⟩
theorem nfx_wd {x : Nat → Nat} (h : BX x) {a p n : Nat} (hp : 0 < p) (ha : a ≤ n) (hp4 : p ≤ n) : Wd (WT.nfx x a p).1 (WT.nfx x a p).2 n := (wd_w h hp ha hp4).norm
theorem w_cat (x : Nat → Nat) (a p : Nat) : WT.wS x (a + p) = WT.wS x a ++ WT.wT x a p := by
  unfold WT.wS WT.wT
  rw [List.range_add, List.map_append, List.map_map]
  rfl
theorem cut_mid {α : Type} (xs : List α) (a b : Nat) : cutL xs (some (a : Int)) (some (b : Int)) = (xs.drop (min a xs.length)).take (min b xs.length - min a xs.length) := by
  unfold cutL
  rw [HT.sIx_nat, HT.sIx_nat]
theorem from_bits_okG {x : Nat → Nat} (h : BX x) {a p : Nat} (hp : 0 < p) (ha : a ≤ 1000) (hp4 : p ≤ 1000) (hn1 : (WT.nfx x a p).1.length ≤ 400) (hn2 : (WT.nfx x a p).2.length ≤ 400) : m_from_bits [.lst (bitsD x (a + p)), .int (a : Int), .int (p : Int)] = .ok (wd (WT.nfx x a p).1 (WT.nfx x a p).2) := by
  have hw := wd_w h hp (n := 1000) ha hp4
  have e1 := made_wd hw hn1 hn2
  have lT : (WT.wS x (a + p)).length = a + p := WT.wS_len x (a + p)
  have ec : fComp [4] (fIt (fVar 0)) (gfN 4) fYes (fIf (fTst (fVar 4)) (fC (.str [49])) (fC (.str [48]))) [some (.lst (bitsD x (a + p))), some (.int (a : Int)), some (.int (p : Int)), none, none] = .ok ((WT.wS x (a + p)).map fun c => .str [c]) [some (.lst (bitsD x (a + p))), some (.int (a : Int)), some (.int (p : Int)), none, none] := by
    have e0 : fIt (fVar 0) [some (.lst (bitsD x (a + p))), some (.int (a : Int)), some (.int (p : Int)), none, none] = .ok (bitsD x (a + p)) [some (.lst (bitsD x (a + p))), some (.int (a : Int)), some (.int (p : Int)), none, none] := rfl
    unfold fComp
    rw [e0, Out.bind_ok, if_pos (by unfold bitsD; rw [List.length_map, List.length_range]; exact limS (by omega))]
    generalize hb : (.lst (bitsD x (a + p)) : D) = w0
    unfold bitsD WT.wS
    rw [List.map_map, compP_all (g := fun i => D.bl (x i == 49)) (h := (fun c => D.str [c]) ∘ x) (List.range (a + p)) fun i _ => ?_]
    · rfl
    · refine ⟨[some w0, some (.int (a : Int)), some (.int (p : Int)), none, some (.bl (x i == 49))], [some w0, some (.int (a : Int)), some (.int (p : Int)), none, some (.bl (x i == 49))], [some w0, some (.int (a : Int)), some (.int (p : Int)), none, some (.bl (x i == 49))], rfl, rfl, ?_⟩
      rcases h i with q | q
      · rw [q, show ((48 : Nat) == 49) = false from rfl]
        simp only [runF, runR, start0, sRet, sSeq, sIf, sSet, sSetL, sPar, sParL, sAsg, sExpr, sSetIx, sApp, sAug, sNx, sBad, sBk, sRetN, thenS, fVar, fC, fOp, fUn, fTst, fNot, fAnd, fOr, fIf, fNil, fCons, fTup, fCall, fAndV, fOrV, fChain, fIsi, fIsi2, isTy, fSl, fNoPart, fPart, fM1, fCallF, fOwnIx, fRow, fOfL, fLstL, gfN, gfT, gfC, gfNil, Out.bind, ofO, opCmp, opIx, opAdd, opSub, unNeg, unNot, opSl, bLen, bInt, List.getElem?_cons_zero, List.getElem?_cons_succ, List.getElem?_nil, List.set_cons_zero, List.set_cons_succ, List.map_cons, List.map_nil, List.length_cons, List.length_nil, List.replicate_succ, List.replicate_zero, List.cons_append, List.nil_append, List.append_nil, if_true, if_false, ite_true, ite_false, reduceIte, Nat.reduceAdd, Nat.reduceSub, Nat.reduceLeDiff, Bool.not_true, Bool.not_false, Bool.false_eq_true, decide_true, decide_false, Option.map_some, Option.bind_some, Nat.zero_add, Nat.le_refl, String.reduceBEq, Bool.or_false, Bool.or_self, Bool.or_true, Bool.false_or, Bool.true_or, Function.comp, q]
      · rw [q, show ((49 : Nat) == 49) = true from rfl]
        simp only [runF, runR, start0, sRet, sSeq, sIf, sSet, sSetL, sPar, sParL, sAsg, sExpr, sSetIx, sApp, sAug, sNx, sBad, sBk, sRetN, thenS, fVar, fC, fOp, fUn, fTst, fNot, fAnd, fOr, fIf, fNil, fCons, fTup, fCall, fAndV, fOrV, fChain, fIsi, fIsi2, isTy, fSl, fNoPart, fPart, fM1, fCallF, fOwnIx, fRow, fOfL, fLstL, gfN, gfT, gfC, gfNil, Out.bind, ofO, opCmp, opIx, opAdd, opSub, unNeg, unNot, opSl, bLen, bInt, List.getElem?_cons_zero, List.getElem?_cons_succ, List.getElem?_nil, List.set_cons_zero, List.set_cons_succ, List.map_cons, List.map_nil, List.length_cons, List.length_nil, List.replicate_succ, List.replicate_zero, List.cons_append, List.nil_append, List.append_nil, if_true, if_false, ite_true, ite_false, reduceIte, Nat.reduceAdd, Nat.reduceSub, Nat.reduceLeDiff, Bool.not_true, Bool.not_false, Bool.false_eq_true, decide_true, decide_false, Option.map_some, Option.bind_some, Nat.zero_add, Nat.le_refl, String.reduceBEq, Bool.or_false, Bool.or_self, Bool.or_true, Bool.false_or, Bool.true_or, Function.comp, q]
  have ej := join_one (show (WT.wS x (a + p)).length ≤ 1000000 by rw [lT]; omega)
  have l1 : (WT.wS x (a + p)).length ≤ lim := limS (by rw [lT]; omega)
  have c1 : cutL (WT.wS x (a + p)) none (some (a : Int)) = WT.wS x a := by
    rw [cut_to, w_cat, List.take_append_of_le_length (by rw [WT.wS_len]; exact Nat.le_refl _), List.take_of_length_le (by rw [WT.wS_len]; exact Nat.le_refl _)]
  have c2 : cutL (WT.wS x (a + p)) (some (a : Int)) (some ((a + p : Nat) : Int)) = WT.wT x a p := by
    rw [cut_mid, lT, Nat.min_self (a + p), show min a (a + p) = a by omega, w_cat, List.drop_append_of_le_length (by rw [WT.wS_len]; exact Nat.le_refl _), List.drop_of_length_le (by rw [WT.wS_len]; exact Nat.le_refl _), List.nil_append, List.take_of_length_le (by rw [WT.wT_len]; omega)]
  have e3 : (a : Int) + (p : Int) = ((a + p : Nat) : Int) := by omega
  unfold WT.nfx
  generalize WT.normL (WT.wS x a) (WT.wT x a p) = nn at *
  refine runF_ret (r := [some (.lst (bitsD x (a + p))), some (.int (a : Int)), some (.int (p : Int)), some (.str (WT.wS x (a + p))), none]) ?_
  show F_from_bits [some (.lst (bitsD x (a + p))), some (.int (a : Int)), some (.int (p : Int)), none, none] = _
  unfold F_from_bits
  generalize fComp [4] (fIt (fVar 0)) (gfN 4) fYes (fIf (fTst (fVar 4)) (fC (.str [49])) (fC (.str [48]))) = ff at *
  generalize bitsD x (a + p) = bb at *
  generalize WT.wS x (a + p) = T at *
  simp only [runF, runR, start0, sRet, sSeq, sIf, sSet, sSetL, sPar, sParL, sAsg, sExpr, sSetIx, sApp, sAug, sNx, sBad, sBk, sRetN, thenS, fVar, fC, fOp, fUn, fTst, fNot, fAnd, fOr, fIf, fNil, fCons, fTup, fCall, fAndV, fOrV, fChain, fIsi, fIsi2, isTy, fSl, fNoPart, fPart, fM1, fCallF, fOwnIx, fRow, fOfL, fLstL, gfN, gfT, gfC, gfNil, Out.bind, ofO, opCmp, opIx, opAdd, opSub, unNeg, unNot, opSl, bLen, bInt, List.getElem?_cons_zero, List.getElem?_cons_succ, List.getElem?_nil, List.set_cons_zero, List.set_cons_succ, List.map_cons, List.map_nil, List.length_cons, List.length_nil, List.replicate_succ, List.replicate_zero, List.cons_append, List.nil_append, List.append_nil, if_true, if_false, ite_true, ite_false, reduceIte, Nat.reduceAdd, Nat.reduceSub, Nat.reduceLeDiff, Bool.not_true, Bool.not_false, Bool.false_eq_true, decide_true, decide_false, Option.map_some, Option.bind_some, Nat.zero_add, Nat.le_refl, String.reduceBEq, Bool.or_false, Bool.or_self, Bool.or_true, Bool.false_or, Bool.true_or, ec, ej, if_pos l1, c1, e3, c2, e1]
theorem from_bits_ok {x : Nat → Nat} (h : BX x) {a p : Nat} (hp : 0 < p) (ha : a ≤ 400) (hp4 : p ≤ 400) : m_from_bits [.lst (bitsD x (a + p)), .int (a : Int), .int (p : Int)] = .ok (wd (WT.nfx x a p).1 (WT.nfx x a p).2) :=
  from_bits_okG h hp (by omega) (by omega) (nfx_wd h (n := 400) hp ha hp4).ls (nfx_wd h (n := 400) hp ha hp4).lt
theorem rng_bits {ρ : Rho} {a p : Nat} (h2 : ρ[2]? = some (some (.int (a : Int)))) (h3 : ρ[3]? = some (some (.int (p : Int)))) (hl : a + p ≤ 10000) : fRng2 (fC (.int 1)) (fOp opAdd (fOp opAdd (fVar 2) (fVar 3)) (fC (.int 1))) ρ = .ok ((List.range (a + p)).map fun i : Nat => .int ((i + 1 : Nat) : Int)) ρ := by
  have k2 : (1 : Int).natAbs ≤ lim ∧ ((a : Int) + (p : Int) + 1).natAbs ≤ lim := ⟨show 1 ≤ 1000000 by omega, show a + p + 1 ≤ 1000000 by omega⟩
  have k3 : ((a : Int) + (p : Int) + 1 - 1).toNat = a + p := by omega
  have e : ((List.range (a + p)).map fun i : Nat => D.int ((i + 1 : Nat) : Int)) = (List.range (a + p)).map fun i : Nat => D.int (1 + (i : Int)) := List.map_congr_left fun i _ => by
    congr 1
    omega
  rw [e]
  clear hl
  simp only [runF, runR, start0, sRet, sSeq, sIf, sSet, sSetL, sPar, sParL, sAsg, sExpr, sSetIx, sApp, sAug, sNx, sBad, sBk, sRetN, thenS, fVar, fC, fOp, fUn, fTst, fNot, fAnd, fOr, fIf, fNil, fCons, fTup, fCall, fAndV, fOrV, fChain, fIsi, fIsi2, isTy, fSl, fNoPart, fPart, fM1, fCallF, fOwnIx, fRow, fOfL, fLstL, gfN, gfT, gfC, gfNil, Out.bind, ofO, opCmp, opIx, opAdd, opSub, unNeg, unNot, opSl, bLen, bInt, List.getElem?_cons_zero, List.getElem?_cons_succ, List.getElem?_nil, List.set_cons_zero, List.set_cons_succ, List.map_cons, List.map_nil, List.length_cons, List.length_nil, List.replicate_succ, List.replicate_zero, List.cons_append, List.nil_append, List.append_nil, if_true, if_false, ite_true, ite_false, reduceIte, Nat.reduceAdd, Nat.reduceSub, Nat.reduceLeDiff, Bool.not_true, Bool.not_false, Bool.false_eq_true, decide_true, decide_false, Option.map_some, Option.bind_some, Nat.zero_add, Nat.le_refl, String.reduceBEq, Bool.or_false, Bool.or_self, Bool.or_true, Bool.false_or, Bool.true_or, fRng2, h2, h3, if_pos k2, k3, numD_map]
def andX (s t s' t' : List Nat) (i : Nat) : Nat := if WT.sat s t i = 49 then WT.sat s' t' i else 48
def orX (s t s' t' : List Nat) (i : Nat) : Nat := if WT.sat s t i = 49 then 49 else WT.sat s' t' i
theorem bx_and {s t s' t' : List Nat} (k : Bt s') (k2 : Bt t') (hn : t' ≠ []) : BX (andX s t s' t') := fun i => by
  unfold andX
  split
  · exact bt_sat k k2 hn i
  · exact .inl rfl
theorem bx_or {s t s' t' : List Nat} (k : Bt s') (k2 : Bt t') (hn : t' ≠ []) : BX (orX s t s' t') := fun i => by
  unfold orX
  split
  · exact .inr rfl
  · exact bt_sat k k2 hn i
end Lw

namespace Lw
open PySem PySem.Spec PyProof PyProof.Rows DL ES
/-! on: one word on the ones of another -/
theorem bx_on {s t s' t' : List Nat} (k : Bt s') (k2 : Bt t') (hn : t' ≠ []) : BX (WT.onX s t s' t') := fun i => by
  unfold WT.onX
  split
  · exact bt_sat k k2 hn _
  · exact .inl rfl
theorem cnt_le (s t : List Nat) (n : Nat) : WT.cnt s t n ≤ n := by
  unfold WT.cnt
  have := List.count_le_length (a := 49) (l := WT.txt s t n)
  rw [WT.txt_len] at this
  exact this
def condO : FT := (fTst (fOp (opCmp fun i j => decide (i < j)) (fCallF m_ones_of (fCons (fVar 0) (fCons (fVar 3) fNil))) (fCall bLen (fCons (fOp opIx (fVar 1) (fC (.int 0))) fNil))))
def bodyO : FS := (sAug (fun i j => i + j) 3 (fVar 4))
theorem loop_O {s t s' t' : List Nat} (h : Wd s t 400) (k : Wd s' t' 400) (hc : 0 < t.count 49) (v2 : Option D) (v5 v6 v7 : Option D) : ∀ (n j fu : Nat), s'.length ≤ WT.cnt s t (s.length + t.length * j) + n → n < fu → s.length + t.length * (j + n) ≤ 1000000 →
    ∃ m, j ≤ m ∧ m ≤ j + n ∧ s'.length ≤ WT.cnt s t (s.length + t.length * m) ∧ whileF condO bodyO fu [some (wd s t), some (wd s' t'), v2, some (.int ((s.length + t.length * j : Nat) : Int)), some (.int (t.length : Int)), v5, v6, v7] = .nx [some (wd s t), some (wd s' t'), v2, some (.int ((s.length + t.length * m : Nat) : Int)), some (.int (t.length : Int)), v5, v6, v7] := by
  intro n
  induction n with
  | zero =>
    intro j fu h1 h2 h3
    obtain ⟨fu, rfl⟩ : ∃ q, fu = q + 1 := ⟨fu - 1, by omega⟩
    rw [Nat.add_zero] at h3
    refine ⟨j, Nat.le_refl _, Nat.le_refl _, by omega, ?_⟩
    have e1 := ones_of_wd (h.up (show 400 ≤ 1000 by decide)) (s.length + t.length * j) (by omega)
    rw [WT.onesF_eq h.ne] at e1
    have ls := k.ls
    have l1 : s'.length ≤ lim := limS (by omega)
    have hd : ¬ ((WT.cnt s t (s.length + t.length * j) : Nat) : Int) < (s'.length : Int) := by omega
    unfold whileF condO
    generalize s.length + t.length * j = q at *
    generalize WT.cnt s t q = c at *
    simp only [runF, runR, start0, sRet, sSeq, sIf, sSet, sSetL, sPar, sParL, sAsg, sExpr, sSetIx, sApp, sAug, sNx, sBad, sBk, sRetN, thenS, fVar, fC, fOp, fUn, fTst, fNot, fAnd, fOr, fIf, fNil, fCons, fTup, fCall, fAndV, fOrV, fChain, fIsi, fIsi2, isTy, fSl, fNoPart, fPart, fM1, fCallF, fOwnIx, fRow, fOfL, fLstL, gfN, gfT, gfC, gfNil, Out.bind, ofO, opCmp, opIx, opAdd, opSub, unNeg, unNot, opSl, bLen, bInt, List.getElem?_cons_zero, List.getElem?_cons_succ, List.getElem?_nil, List.set_cons_zero, List.set_cons_succ, List.map_cons, List.map_nil, List.length_cons, List.length_nil, List.replicate_succ, List.replicate_zero, List.cons_append, List.nil_append, List.append_nil, if_true, if_false, ite_true, ite_false, reduceIte, Nat.reduceAdd, Nat.reduceSub, Nat.reduceLeDiff, Bool.not_true, Bool.not_false, Bool.false_eq_true, decide_true, decide_false, Option.map_some, Option.bind_some, Nat.zero_add, Nat.le_refl, String.reduceBEq, Bool.or_false, Bool.or_self, Bool.or_true, Bool.false_or, Bool.true_or, e1, i0, if_pos l1, decide_eq_false hd]
  | succ n ih =>
    intro j fu h1 h2 h3
    obtain ⟨fu, rfl⟩ : ∃ q, fu = q + 1 := ⟨fu - 1, by omega⟩
    have hle : t.length * j ≤ t.length * (j + (n + 1)) := Nat.mul_le_mul_left _ (by omega)
    have e1 := ones_of_wd (h.up (show 400 ≤ 1000 by decide)) (s.length + t.length * j) (by omega)
    rw [WT.onesF_eq h.ne] at e1
    have ls := k.ls
    have l1 : s'.length ≤ lim := limS (by omega)
    by_cases q : WT.cnt s t (s.length + t.length * j) < s'.length
    · have hd : ((WT.cnt s t (s.length + t.length * j) : Nat) : Int) < (s'.length : Int) := by omega
      have hturn := WT.cnt_turn (s := s) (t := t) (a := s.length + t.length * j) (by omega) 1
      rw [Nat.mul_one, Nat.one_mul] at hturn
      have hst : s.length + t.length * j + t.length = s.length + t.length * (j + 1) := by rw [Nat.mul_succ]; omega
      rw [hst] at hturn
      obtain ⟨m, m1, m2, m3, m4⟩ := ih (j + 1) fu (by omega) (by omega) (by rw [show j + 1 + n = j + (n + 1) by omega]; exact h3)
      refine ⟨m, by omega, by omega, m3, ?_⟩
      rw [← m4, ← hst]
      have e9 : ((s.length + t.length * j : Nat) : Int) + (t.length : Int) = ((s.length + t.length * j + t.length : Nat) : Int) := by omega
      conv => lhs; unfold whileF
      unfold condO bodyO
      generalize s.length + t.length * j = z at *
      generalize WT.cnt s t z = c at *
      simp only [runF, runR, start0, sRet, sSeq, sIf, sSet, sSetL, sPar, sParL, sAsg, sExpr, sSetIx, sApp, sAug, sNx, sBad, sBk, sRetN, thenS, fVar, fC, fOp, fUn, fTst, fNot, fAnd, fOr, fIf, fNil, fCons, fTup, fCall, fAndV, fOrV, fChain, fIsi, fIsi2, isTy, fSl, fNoPart, fPart, fM1, fCallF, fOwnIx, fRow, fOfL, fLstL, gfN, gfT, gfC, gfNil, Out.bind, ofO, opCmp, opIx, opAdd, opSub, unNeg, unNot, opSl, bLen, bInt, List.getElem?_cons_zero, List.getElem?_cons_succ, List.getElem?_nil, List.set_cons_zero, List.set_cons_succ, List.map_cons, List.map_nil, List.length_cons, List.length_nil, List.replicate_succ, List.replicate_zero, List.cons_append, List.nil_append, List.append_nil, if_true, if_false, ite_true, ite_false, reduceIte, Nat.reduceAdd, Nat.reduceSub, Nat.reduceLeDiff, Bool.not_true, Bool.not_false, Bool.false_eq_true, decide_true, decide_false, Option.map_some, Option.bind_some, Nat.zero_add, Nat.le_refl, String.reduceBEq, Bool.or_false, Bool.or_self, Bool.or_true, Bool.false_or, Bool.true_or, e1, i0, if_pos l1, decide_eq_true hd, e9]
    · refine ⟨j, Nat.le_refl _, by omega, by omega, ?_⟩
      have hd : ¬ ((WT.cnt s t (s.length + t.length * j) : Nat) : Int) < (s'.length : Int) := by omega
      unfold whileF condO
      generalize s.length + t.length * j = z at *
      generalize WT.cnt s t z = c at *
      simp only [runF, runR, start0, sRet, sSeq, sIf, sSet, sSetL, sPar, sParL, sAsg, sExpr, sSetIx, sApp, sAug, sNx, sBad, sBk, sRetN, thenS, fVar, fC, fOp, fUn, fTst, fNot, fAnd, fOr, fIf, fNil, fCons, fTup, fCall, fAndV, fOrV, fChain, fIsi, fIsi2, isTy, fSl, fNoPart, fPart, fM1, fCallF, fOwnIx, fRow, fOfL, fLstL, gfN, gfT, gfC, gfNil, Out.bind, ofO, opCmp, opIx, opAdd, opSub, unNeg, unNot, opSl, bLen, bInt, List.getElem?_cons_zero, List.getElem?_cons_succ, List.getElem?_nil, List.set_cons_zero, List.set_cons_succ, List.map_cons, List.map_nil, List.length_cons, List.length_nil, List.replicate_succ, List.replicate_zero, List.cons_append, List.nil_append, List.append_nil, if_true, if_false, ite_true, ite_false, reduceIte, Nat.reduceAdd, Nat.reduceSub, Nat.reduceLeDiff, Bool.not_true, Bool.not_false, Bool.false_eq_true, decide_true, decide_false, Option.map_some, Option.bind_some, Nat.zero_add, Nat.le_refl, String.reduceBEq, Bool.or_false, Bool.or_self, Bool.or_true, Bool.false_or, Bool.true_or, e1, i0, if_pos l1, decide_eq_false hd]
theorem bitsD_succ (x : Nat → Nat) (n : Nat) : bitsD x (n + 1) = bitsD x n ++ [.bl (x n == 49)] := by
  unfold bitsD
  rw [List.range_succ, List.map_append]
  rfl
theorem bitsD_len (x : Nat → Nat) (n : Nat) : (bitsD x n).length = n := by
  unfold bitsD
  rw [List.length_map, List.length_range]
/-- the round of on: c ones a round -/
theorem on_round {c q : Nat} (hc : 0 < c) (hq : 0 < q) : 0 < q / Nat.gcd c q ∧ q / Nat.gcd c q ≤ q ∧ q ∣ q / Nat.gcd c q * c := by
  have hg : 0 < Nat.gcd c q := Nat.gcd_pos_of_pos_left _ hc
  obtain ⟨a, ha⟩ := Nat.gcd_dvd_left c q
  have hq2 : q / Nat.gcd c q * Nat.gcd c q = q := Nat.div_mul_cancel (Nat.gcd_dvd_right c q)
  refine ⟨Nat.div_pos (Nat.le_of_dvd hq (Nat.gcd_dvd_right _ _)) hg, Nat.div_le_self _ _, ⟨a, ?_⟩⟩
  generalize hr : q / Nat.gcd c q = r at *
  calc r * c = r * (Nat.gcd c q * a) := by rw [← ha]
    _ = r * Nat.gcd c q * a := by rw [Nat.mul_assoc]
    _ = q * a := by rw [hq2]
end Lw

namespace Lw
open PySem PySem.Spec PyProof PyProof.Rows DL ES
/-! counts of two words -/
theorem lcmD_le {t t' : List Nat} (h : 0 < t.length) (k : 0 < t'.length) (l1 : t.length ≤ 1000) (l2 : t'.length ≤ 1000) : Nat.lcm t.length t'.length ≤ 1000000 := by
  have := WT.lcm_le h k
  have : t.length * t'.length ≤ 1000 * 1000 := Nat.mul_le_mul l1 l2
  omega
theorem drift_wd {s t s' t' : List Nat} (h : Wd s t 1000) (k : Wd s' t' 1000) : m_drift [wd s t, wd s' t'] = .ok (.int (WT.drf t t')) := by
  have l2 := h.lt
  have l4 := k.lt
  have hp := h.pos
  have hp' := k.pos
  have e1 := lcm_of_ok hp hp' (by omega) (by omega)
  have hc : t.count 49 ≤ t.length := List.count_le_length
  have hc' : t'.count 49 ≤ t'.length := List.count_le_length
  unfold WT.drf
  generalize Nat.lcm t.length t'.length = L at *
  have em : opMul (.int ((L / t.length : Nat) : Int)) (.int ((t.count 49 : Nat) : Int)) = some (.int ((L / t.length * t.count 49 : Nat) : Int)) := by
    rw [mulI (.inr (by omega))]
    exact congrArg (fun z => some (D.int z)) (Int.natCast_mul _ _).symm
  have em' : opMul (.int ((L / t'.length : Nat) : Int)) (.int ((t'.count 49 : Nat) : Int)) = some (.int ((L / t'.length * t'.count 49 : Nat) : Int)) := by
    rw [mulI (.inr (by omega))]
    exact congrArg (fun z => some (D.int z)) (Int.natCast_mul _ _).symm
  refine runF_ret (r := [some (wd s t), some (wd s' t'), some (.int (L : Int))]) ?_
  show F_drift [some (wd s t), some (wd s' t'), none] = _
  unfold F_drift
  simp only [runF, runR, start0, sRet, sSeq, sIf, sSet, sSetL, sPar, sParL, sAsg, sExpr, sSetIx, sApp, sAug, sNx, sBad, sBk, sRetN, thenS, fVar, fC, fOp, fUn, fTst, fNot, fAnd, fOr, fIf, fNil, fCons, fTup, fCall, fAndV, fOrV, fChain, fIsi, fIsi2, isTy, fSl, fNoPart, fPart, fM1, fCallF, fOwnIx, fRow, fOfL, fLstL, gfN, gfT, gfC, gfNil, Out.bind, ofO, opCmp, opIx, opAdd, opSub, unNeg, unNot, opSl, bLen, bInt, List.getElem?_cons_zero, List.getElem?_cons_succ, List.getElem?_nil, List.set_cons_zero, List.set_cons_succ, List.map_cons, List.map_nil, List.length_cons, List.length_nil, List.replicate_succ, List.replicate_zero, List.cons_append, List.nil_append, List.append_nil, if_true, if_false, ite_true, ite_false, reduceIte, Nat.reduceAdd, Nat.reduceSub, Nat.reduceLeDiff, Bool.not_true, Bool.not_false, Bool.false_eq_true, decide_true, decide_false, Option.map_some, Option.bind_some, Nat.zero_add, Nat.le_refl, String.reduceBEq, Bool.or_false, Bool.or_self, Bool.or_true, Bool.false_or, Bool.true_or, i0, i1, if_pos (limS (show t.length ≤ 1000000 by omega)), if_pos (limS (show t'.length ≤ 1000000 by omega)), e1, countS, divN (show t.length ≠ 0 by omega) (show t.length < 1073741824 by omega), divN (show t'.length ≠ 0 by omega) (show t'.length < 1073741824 by omega), em, em']
theorem asInts_rng (f : Nat → Int) (n : Nat) : asInts ((List.range n).map fun i => .int (f i)) = some ((List.range n).map f) := by
  have := asInts_map ((List.range n).map f)
  rw [List.map_map] at this
  exact this
def gapD : Option Int → D
  | none => .non
  | some M => .int M
theorem rng_to {ρ : Rho} {a p : Nat} (h2 : ρ[2]? = some (some (.int (a : Int)))) (h3 : ρ[3]? = some (some (.int (p : Int)))) (hl : a + p ≤ 900000) : fRng1 (fOp opAdd (fOp opAdd (fVar 2) (fVar 3)) (fC (.int 1))) ρ = .ok ((List.range (a + p + 1)).map fun i : Nat => .int ((i : Nat) : Int)) ρ := by
  have k2 : ((a : Int) + (p : Int) + 1).natAbs ≤ lim := show a + p + 1 ≤ 1000000 by omega
  have k3 : ((a : Int) + (p : Int) + 1).toNat = a + p + 1 := by omega
  have e : ((List.range (a + p + 1)).map fun i : Nat => D.int ((i : Nat) : Int)) = (List.range (a + p + 1)).map fun i : Nat => D.int (0 + (i : Int)) := List.map_congr_left fun i _ => by
    congr 1
    omega
  rw [e]
  clear hl
  simp only [runF, runR, start0, sRet, sSeq, sIf, sSet, sSetL, sPar, sParL, sAsg, sExpr, sSetIx, sApp, sAug, sNx, sBad, sBk, sRetN, thenS, fVar, fC, fOp, fUn, fTst, fNot, fAnd, fOr, fIf, fNil, fCons, fTup, fCall, fAndV, fOrV, fChain, fIsi, fIsi2, isTy, fSl, fNoPart, fPart, fM1, fCallF, fOwnIx, fRow, fOfL, fLstL, gfN, gfT, gfC, gfNil, Out.bind, ofO, opCmp, opIx, opAdd, opSub, unNeg, unNot, opSl, bLen, bInt, List.getElem?_cons_zero, List.getElem?_cons_succ, List.getElem?_nil, List.set_cons_zero, List.set_cons_succ, List.map_cons, List.map_nil, List.length_cons, List.length_nil, List.replicate_succ, List.replicate_zero, List.cons_append, List.nil_append, List.append_nil, if_true, if_false, ite_true, ite_false, reduceIte, Nat.reduceAdd, Nat.reduceSub, Nat.reduceLeDiff, Bool.not_true, Bool.not_false, Bool.false_eq_true, decide_true, decide_false, Option.map_some, Option.bind_some, Nat.zero_add, Nat.le_refl, String.reduceBEq, Bool.or_false, Bool.or_self, Bool.or_true, Bool.false_or, Bool.true_or, fRng1, h2, h3, if_pos k2, k3, numD_map]
theorem gap_of_wd {s t s' t' : List Nat} (h : Wd s t 900) (k : Wd s' t' 900) (hL : Nat.lcm t.length t'.length ≤ 800000) : ∃ d, WT.Gap s t s' t' d ∧ m_gap_of [wd s t, wd s' t'] = .ok (gapD d) := by
  have hp := h.pos
  have hp' := k.pos
  have ls := h.ls
  have ls' := k.ls
  have ed := drift_wd (h.up (show 900 ≤ 1000 by decide)) (k.up (show 900 ≤ 1000 by decide))
  have e1 := paired_wd (h.up (show 900 ≤ 1000 by decide)) (k.up (show 900 ≤ 1000 by decide))
  by_cases q : 0 < WT.drf t t'
  · refine ⟨none, .none q (WT.G_up hp hp' q), runF_ret (r := [some (wd s t), some (wd s' t'), none, none, none]) ?_⟩
    show F_gap_of [some (wd s t), some (wd s' t'), none, none, none] = _
    unfold F_gap_of
    simp only [runF, runR, start0, sRet, sSeq, sIf, sSet, sSetL, sPar, sParL, sAsg, sExpr, sSetIx, sApp, sAug, sNx, sBad, sBk, sRetN, thenS, fVar, fC, fOp, fUn, fTst, fNot, fAnd, fOr, fIf, fNil, fCons, fTup, fCall, fAndV, fOrV, fChain, fIsi, fIsi2, isTy, fSl, fNoPart, fPart, fM1, fCallF, fOwnIx, fRow, fOfL, fLstL, gfN, gfT, gfC, gfNil, Out.bind, ofO, opCmp, opIx, opAdd, opSub, unNeg, unNot, opSl, bLen, bInt, List.getElem?_cons_zero, List.getElem?_cons_succ, List.getElem?_nil, List.set_cons_zero, List.set_cons_succ, List.map_cons, List.map_nil, List.length_cons, List.length_nil, List.replicate_succ, List.replicate_zero, List.cons_append, List.nil_append, List.append_nil, if_true, if_false, ite_true, ite_false, reduceIte, Nat.reduceAdd, Nat.reduceSub, Nat.reduceLeDiff, Bool.not_true, Bool.not_false, Bool.false_eq_true, decide_true, decide_false, Option.map_some, Option.bind_some, Nat.zero_add, Nat.le_refl, String.reduceBEq, Bool.or_false, Bool.or_self, Bool.or_true, Bool.false_or, Bool.true_or, ed, decide_eq_true q, gapD]
  · have hb := WT.G_bound (s := s) (s' := s') hp hp' (show WT.drf t t' ≤ 0 by omega)
    unfold lensD at e1
    generalize ha : max s.length s'.length = a at *
    generalize Nat.lcm t.length t'.length = p at *
    have er := rng_to (ρ := [some (wd s t), some (wd s' t'), some (.int (a : Int)), some (.int (p : Int)), none]) (a := a) (p := p) rfl rfl (by omega)
    have ec : fComp [4] (fRng1 (fOp opAdd (fOp opAdd (fVar 2) (fVar 3)) (fC (.int 1)))) (gfN 4) fYes (fOp opSub (fCallF m_ones_of (fCons (fVar 0) (fCons (fVar 4) fNil))) (fCallF m_ones_of (fCons (fVar 1) (fCons (fVar 4) fNil)))) [some (wd s t), some (wd s' t'), some (.int (a : Int)), some (.int (p : Int)), none] = .ok ((List.range (a + p + 1)).map fun i => .int (WT.G s t s' t' i)) [some (wd s t), some (wd s' t'), some (.int (a : Int)), some (.int (p : Int)), none] := by
      unfold fComp
      rw [er, Out.bind_ok, if_pos (by rw [List.length_map, List.length_range]; exact limS (by omega))]
      rw [compP_all (g := fun i : Nat => D.int ((i : Nat) : Int)) (h := fun i => D.int (WT.G s t s' t' i)) (List.range (a + p + 1)) fun i hi => ?_]
      · rfl
      · have hi := List.mem_range.mp hi
        have b1 := ones_of_wd (h.up (show 900 ≤ 1000 by decide)) i (by omega)
        have b2 := ones_of_wd (k.up (show 900 ≤ 1000 by decide)) i (by omega)
        rw [WT.onesF_eq h.ne] at b1
        rw [WT.onesF_eq k.ne] at b2
        refine ⟨[some (wd s t), some (wd s' t'), some (.int (a : Int)), some (.int (p : Int)), some (.int (i : Int))], [some (wd s t), some (wd s' t'), some (.int (a : Int)), some (.int (p : Int)), some (.int (i : Int))], [some (wd s t), some (wd s' t'), some (.int (a : Int)), some (.int (p : Int)), some (.int (i : Int))], rfl, rfl, ?_⟩
        unfold WT.G
        simp only [runF, runR, start0, sRet, sSeq, sIf, sSet, sSetL, sPar, sParL, sAsg, sExpr, sSetIx, sApp, sAug, sNx, sBad, sBk, sRetN, thenS, fVar, fC, fOp, fUn, fTst, fNot, fAnd, fOr, fIf, fNil, fCons, fTup, fCall, fAndV, fOrV, fChain, fIsi, fIsi2, isTy, fSl, fNoPart, fPart, fM1, fCallF, fOwnIx, fRow, fOfL, fLstL, gfN, gfT, gfC, gfNil, Out.bind, ofO, opCmp, opIx, opAdd, opSub, unNeg, unNot, opSl, bLen, bInt, List.getElem?_cons_zero, List.getElem?_cons_succ, List.getElem?_nil, List.set_cons_zero, List.set_cons_succ, List.map_cons, List.map_nil, List.length_cons, List.length_nil, List.replicate_succ, List.replicate_zero, List.cons_append, List.nil_append, List.append_nil, if_true, if_false, ite_true, ite_false, reduceIte, Nat.reduceAdd, Nat.reduceSub, Nat.reduceLeDiff, Bool.not_true, Bool.not_false, Bool.false_eq_true, decide_true, decide_false, Option.map_some, Option.bind_some, Nat.zero_add, Nat.le_refl, String.reduceBEq, Bool.or_false, Bool.or_self, Bool.or_true, Bool.false_or, Bool.true_or, b1, b2]
    have hmax : ∃ M, maxL ((List.range (a + p + 1)).map (WT.G s t s' t')) = some M := by
      cases e : (List.range (a + p + 1)).map (WT.G s t s' t') with
      | nil =>
        have := congrArg List.length e
        rw [List.length_map, List.length_range] at this
        simp at this
      | cons x xs => exact ⟨_, rfl⟩
    obtain ⟨M, hM⟩ := hmax
    obtain ⟨m1, m2⟩ := maxL_le hM
    obtain ⟨n0, hn0, hn1⟩ := List.mem_map.mp m1
    refine ⟨some M, .some M (by omega) ⟨n0, hn1⟩ (fun n => ?_), runF_ret (r := [some (wd s t), some (wd s' t'), some (.int (a : Int)), some (.int (p : Int)), none]) ?_⟩
    · obtain ⟨m, hm, hm2⟩ := hb n
      exact Int.le_trans hm2 (m2 _ (List.mem_map.mpr ⟨m, List.mem_range.mpr (by omega), rfl⟩))
    · show F_gap_of [some (wd s t), some (wd s' t'), none, none, none] = _
      have ebm : bMaxL [.lst ((List.range (a + p + 1)).map fun i => .int (WT.G s t s' t' i))] = some (.int M) := by
        unfold bMaxL
        simp only [asInts_rng, Option.bind_some, hM, Option.map_some]
      unfold F_gap_of
      generalize fComp [4] (fRng1 (fOp opAdd (fOp opAdd (fVar 2) (fVar 3)) (fC (.int 1)))) (gfN 4) fYes (fOp opSub (fCallF m_ones_of (fCons (fVar 0) (fCons (fVar 4) fNil))) (fCallF m_ones_of (fCons (fVar 1) (fCons (fVar 4) fNil)))) = ff at *
      generalize ((List.range (a + p + 1)).map fun i => D.int (WT.G s t s' t' i)) = B at *
      simp only [runF, runR, start0, sRet, sSeq, sIf, sSet, sSetL, sPar, sParL, sAsg, sExpr, sSetIx, sApp, sAug, sNx, sBad, sBk, sRetN, thenS, fVar, fC, fOp, fUn, fTst, fNot, fAnd, fOr, fIf, fNil, fCons, fTup, fCall, fAndV, fOrV, fChain, fIsi, fIsi2, isTy, fSl, fNoPart, fPart, fM1, fCallF, fOwnIx, fRow, fOfL, fLstL, gfN, gfT, gfC, gfNil, Out.bind, ofO, opCmp, opIx, opAdd, opSub, unNeg, unNot, opSl, bLen, bInt, List.getElem?_cons_zero, List.getElem?_cons_succ, List.getElem?_nil, List.set_cons_zero, List.set_cons_succ, List.map_cons, List.map_nil, List.length_cons, List.length_nil, List.replicate_succ, List.replicate_zero, List.cons_append, List.nil_append, List.append_nil, if_true, if_false, ite_true, ite_false, reduceIte, Nat.reduceAdd, Nat.reduceSub, Nat.reduceLeDiff, Bool.not_true, Bool.not_false, Bool.false_eq_true, decide_true, decide_false, Option.map_some, Option.bind_some, Nat.zero_add, Nat.le_refl, String.reduceBEq, Bool.or_false, Bool.or_self, Bool.or_true, Bool.false_or, Bool.true_or, ed, decide_eq_false q, e1, ec, ebm, gapD]
def Ahead (s t s' t' : List Nat) : Prop := ∀ n, WT.cnt s' t' n ≤ WT.cnt s t n
theorem is_ahead_wd {s t s' t' : List Nat} (h : Wd s t 900) (k : Wd s' t' 900) (hL : Nat.lcm t'.length t.length ≤ 800000) : ∃ b : Bool, (b = true ↔ Ahead s t s' t') ∧ m_is_ahead [wd s t, wd s' t'] = .ok (.bl b) := by
  obtain ⟨d, hd, e⟩ := gap_of_wd k h hL
  have hz := hd.zero
  refine ⟨decide (d = some 0), by rw [decide_eq_true_iff]; exact hz, runF_ret (r := [some (wd s t), some (wd s' t')]) ?_⟩
  show F_is_ahead [some (wd s t), some (wd s' t')] = _
  unfold F_is_ahead
  cases d with
  | none =>
    have e2 : opEq .non (.int 0) = some (.bl false) := rfl
    simp only [runF, runR, start0, sRet, sSeq, sIf, sSet, sSetL, sPar, sParL, sAsg, sExpr, sSetIx, sApp, sAug, sNx, sBad, sBk, sRetN, thenS, fVar, fC, fOp, fUn, fTst, fNot, fAnd, fOr, fIf, fNil, fCons, fTup, fCall, fAndV, fOrV, fChain, fIsi, fIsi2, isTy, fSl, fNoPart, fPart, fM1, fCallF, fOwnIx, fRow, fOfL, fLstL, gfN, gfT, gfC, gfNil, Out.bind, ofO, opCmp, opIx, opAdd, opSub, unNeg, unNot, opSl, bLen, bInt, List.getElem?_cons_zero, List.getElem?_cons_succ, List.getElem?_nil, List.set_cons_zero, List.set_cons_succ, List.map_cons, List.map_nil, List.length_cons, List.length_nil, List.replicate_succ, List.replicate_zero, List.cons_append, List.nil_append, List.append_nil, if_true, if_false, ite_true, ite_false, reduceIte, Nat.reduceAdd, Nat.reduceSub, Nat.reduceLeDiff, Bool.not_true, Bool.not_false, Bool.false_eq_true, decide_true, decide_false, Option.map_some, Option.bind_some, Nat.zero_add, Nat.le_refl, String.reduceBEq, Bool.or_false, Bool.or_self, Bool.or_true, Bool.false_or, Bool.true_or, e, gapD, e2]
    rfl
  | some M =>
    simp only [runF, runR, start0, sRet, sSeq, sIf, sSet, sSetL, sPar, sParL, sAsg, sExpr, sSetIx, sApp, sAug, sNx, sBad, sBk, sRetN, thenS, fVar, fC, fOp, fUn, fTst, fNot, fAnd, fOr, fIf, fNil, fCons, fTup, fCall, fAndV, fOrV, fChain, fIsi, fIsi2, isTy, fSl, fNoPart, fPart, fM1, fCallF, fOwnIx, fRow, fOfL, fLstL, gfN, gfT, gfC, gfNil, Out.bind, ofO, opCmp, opIx, opAdd, opSub, unNeg, unNot, opSl, bLen, bInt, List.getElem?_cons_zero, List.getElem?_cons_succ, List.getElem?_nil, List.set_cons_zero, List.set_cons_succ, List.map_cons, List.map_nil, List.length_cons, List.length_nil, List.replicate_succ, List.replicate_zero, List.cons_append, List.nil_append, List.append_nil, if_true, if_false, ite_true, ite_false, reduceIte, Nat.reduceAdd, Nat.reduceSub, Nat.reduceLeDiff, Bool.not_true, Bool.not_false, Bool.false_eq_true, decide_true, decide_false, Option.map_some, Option.bind_some, Nat.zero_add, Nat.le_refl, String.reduceBEq, Bool.or_false, Bool.or_self, Bool.or_true, Bool.false_or, Bool.true_or, e, gapD, eqI]
    congr 2
    rw [Bool.eq_iff_iff]
    simp
end Lw

namespace Lw
open PySem PySem.Spec PyProof PyProof.Rows DL ES
/-! the one that is ahead, the one that is behind -/
def topN (most : Bool) (a b : Nat) : Nat := if most then max a b else min a b
theorem topN_comm (most : Bool) (a b : Nat) : topN most a b = topN most b a := by
  unfold topN
  split
  · exact Nat.max_comm _ _
  · exact Nat.min_comm _ _
def topE (most : Bool) (s t s' t' : List Nat) (n : Nat) : Nat := topN most (WT.cnt s t n) (WT.cnt s' t' n)
def chX (most : Bool) (s t s' t' : List Nat) (n : Nat) : Nat := if topE most s t s' t' n < topE most s t s' t' (n + 1) then 49 else 48
theorem bx_ch (most : Bool) (s t s' t' : List Nat) : BX (chX most s t s' t') := fun i => by
  unfold chX
  split
  · exact .inr rfl
  · exact .inl rfl
theorem told_wd {s t s' t' : List Nat} (h : Wd s t 1000) (k : Wd s' t' 1000) (most : Bool) {n : Nat} (hn : n ≤ 1000000) : m_told_count [wd s t, wd s' t', .int (n : Int), .bl most] = .ok (.int ((topE most s t s' t' n : Nat) : Int)) := by
  have b1 := ones_of_wd h n (by omega)
  have b2 := ones_of_wd k n (by omega)
  rw [WT.onesF_eq h.ne] at b1
  rw [WT.onesF_eq k.ne] at b2
  unfold topE
  generalize WT.cnt s t n = c at *
  generalize WT.cnt s' t' n = d at *
  have e1 : bMaxL [.lst [.int (c : Int), .int (d : Int)]] = some (.int ((max c d : Nat) : Int)) := by
    show some (D.int (if (d : Int) > (c : Int) then (d : Int) else (c : Int))) = _
    congr 2
    split <;> omega
  have e2 : bMinL [.lst [.int (c : Int), .int (d : Int)]] = some (.int ((min c d : Nat) : Int)) := by
    show some (D.int (if (d : Int) < (c : Int) then (d : Int) else (c : Int))) = _
    congr 2
    split <;> omega
  have l2 : 2 ≤ lim := limS (by omega)
  refine runF_ret (r := [some (wd s t), some (wd s' t'), some (.int (n : Int)), some (.bl most), some (.lst [.int (c : Int), .int (d : Int)])]) ?_
  show F_told_count [some (wd s t), some (wd s' t'), some (.int (n : Int)), some (.bl most), none] = _
  unfold F_told_count topN
  cases most with
  | true => simp only [runF, runR, start0, sRet, sSeq, sIf, sSet, sSetL, sPar, sParL, sAsg, sExpr, sSetIx, sApp, sAug, sNx, sBad, sBk, sRetN, thenS, fVar, fC, fOp, fUn, fTst, fNot, fAnd, fOr, fIf, fNil, fCons, fTup, fCall, fAndV, fOrV, fChain, fIsi, fIsi2, isTy, fSl, fNoPart, fPart, fM1, fCallF, fOwnIx, fRow, fOfL, fLstL, gfN, gfT, gfC, gfNil, Out.bind, ofO, opCmp, opIx, opAdd, opSub, unNeg, unNot, opSl, bLen, bInt, List.getElem?_cons_zero, List.getElem?_cons_succ, List.getElem?_nil, List.set_cons_zero, List.set_cons_succ, List.map_cons, List.map_nil, List.length_cons, List.length_nil, List.replicate_succ, List.replicate_zero, List.cons_append, List.nil_append, List.append_nil, if_true, if_false, ite_true, ite_false, reduceIte, Nat.reduceAdd, Nat.reduceSub, Nat.reduceLeDiff, Bool.not_true, Bool.not_false, Bool.false_eq_true, decide_true, decide_false, Option.map_some, Option.bind_some, Nat.zero_add, Nat.le_refl, String.reduceBEq, Bool.or_false, Bool.or_self, Bool.or_true, Bool.false_or, Bool.true_or, b1, b2, if_pos l2, e1]
  | false => simp only [runF, runR, start0, sRet, sSeq, sIf, sSet, sSetL, sPar, sParL, sAsg, sExpr, sSetIx, sApp, sAug, sNx, sBad, sBk, sRetN, thenS, fVar, fC, fOp, fUn, fTst, fNot, fAnd, fOr, fIf, fNil, fCons, fTup, fCall, fAndV, fOrV, fChain, fIsi, fIsi2, isTy, fSl, fNoPart, fPart, fM1, fCallF, fOwnIx, fRow, fOfL, fLstL, gfN, gfT, gfC, gfNil, Out.bind, ofO, opCmp, opIx, opAdd, opSub, unNeg, unNot, opSl, bLen, bInt, List.getElem?_cons_zero, List.getElem?_cons_succ, List.getElem?_nil, List.set_cons_zero, List.set_cons_succ, List.map_cons, List.map_nil, List.length_cons, List.length_nil, List.replicate_succ, List.replicate_zero, List.cons_append, List.nil_append, List.append_nil, if_true, if_false, ite_true, ite_false, reduceIte, Nat.reduceAdd, Nat.reduceSub, Nat.reduceLeDiff, Bool.not_true, Bool.not_false, Bool.false_eq_true, decide_true, decide_false, Option.map_some, Option.bind_some, Nat.zero_add, Nat.le_refl, String.reduceBEq, Bool.or_false, Bool.or_self, Bool.or_true, Bool.false_or, Bool.true_or, b1, b2, if_pos l2, e2]
/-- the end of chosen: the counts, the bits -/
def tailC : FS := (sSeq (sSet 9 (fOfL (fComp [8] (fRng1 (fOp opAdd (fOp opAdd (fVar 4) (fVar 5)) (fC (.int 1)))) (gfN 8) fYes (fCallF m_told_count (fCons (fVar 0) (fCons (fVar 1) (fCons (fVar 8) (fCons (fVar 2) fNil))))))))
  (sRet (fCallF m_from_bits (fCons (fOfL (fComp [8] (fRng2 (fC (.int 1)) (fCall bLen (fCons (fVar 9) fNil))) (gfN 8) fYes (fOp (opCmp fun i j => decide (j < i)) (fOp opIx (fVar 9) (fVar 8)) (fOp opIx (fVar 9) (fOp opSub (fVar 8) (fC (.int 1))))))) (fCons (fVar 4) (fCons (fVar 5) fNil))))))
theorem tail_C {s t s' t' : List Nat} (h : Wd s t 1000) (k : Wd s' t' 1000) (most : Bool) {a p : Nat} (hp : 0 < p) (ha : a ≤ 400) (hp4 : p ≤ 400) (v3 v6 v7 v8 : Option D) :
    ∃ r, tailC [some (wd s t), some (wd s' t'), some (.bl most), v3, some (.int (a : Int)), some (.int (p : Int)), v6, v7, v8, none] = .ret (wd (WT.nfx (chX most s t s' t') a p).1 (WT.nfx (chX most s t s' t') a p).2) r := by
  have e2 := from_bits_ok (bx_ch most s t s' t') hp ha hp4
  have er : fRng1 (fOp opAdd (fOp opAdd (fVar 4) (fVar 5)) (fC (.int 1))) [some (wd s t), some (wd s' t'), some (.bl most), v3, some (.int (a : Int)), some (.int (p : Int)), v6, v7, v8, none] = .ok ((List.range (a + p + 1)).map fun i : Nat => .int ((i : Nat) : Int)) [some (wd s t), some (wd s' t'), some (.bl most), v3, some (.int (a : Int)), some (.int (p : Int)), v6, v7, v8, none] := by
    have k2 : ((a : Int) + (p : Int) + 1).natAbs ≤ lim := show a + p + 1 ≤ 1000000 by omega
    have k3 : ((a : Int) + (p : Int) + 1).toNat = a + p + 1 := by omega
    have e : ((List.range (a + p + 1)).map fun i : Nat => D.int ((i : Nat) : Int)) = (List.range (a + p + 1)).map fun i : Nat => D.int (0 + (i : Int)) := List.map_congr_left fun i _ => by
      congr 1
      omega
    rw [e]
    clear e2 ha hp4
    simp only [runF, runR, start0, sRet, sSeq, sIf, sSet, sSetL, sPar, sParL, sAsg, sExpr, sSetIx, sApp, sAug, sNx, sBad, sBk, sRetN, thenS, fVar, fC, fOp, fUn, fTst, fNot, fAnd, fOr, fIf, fNil, fCons, fTup, fCall, fAndV, fOrV, fChain, fIsi, fIsi2, isTy, fSl, fNoPart, fPart, fM1, fCallF, fOwnIx, fRow, fOfL, fLstL, gfN, gfT, gfC, gfNil, Out.bind, ofO, opCmp, opIx, opAdd, opSub, unNeg, unNot, opSl, bLen, bInt, List.getElem?_cons_zero, List.getElem?_cons_succ, List.getElem?_nil, List.set_cons_zero, List.set_cons_succ, List.map_cons, List.map_nil, List.length_cons, List.length_nil, List.replicate_succ, List.replicate_zero, List.cons_append, List.nil_append, List.append_nil, if_true, if_false, ite_true, ite_false, reduceIte, Nat.reduceAdd, Nat.reduceSub, Nat.reduceLeDiff, Bool.not_true, Bool.not_false, Bool.false_eq_true, decide_true, decide_false, Option.map_some, Option.bind_some, Nat.zero_add, Nat.le_refl, String.reduceBEq, Bool.or_false, Bool.or_self, Bool.or_true, Bool.false_or, Bool.true_or, fRng1, if_pos k2, k3, numD_map]
  have ec : fComp [8] (fRng1 (fOp opAdd (fOp opAdd (fVar 4) (fVar 5)) (fC (.int 1)))) (gfN 8) fYes (fCallF m_told_count (fCons (fVar 0) (fCons (fVar 1) (fCons (fVar 8) (fCons (fVar 2) fNil))))) [some (wd s t), some (wd s' t'), some (.bl most), v3, some (.int (a : Int)), some (.int (p : Int)), v6, v7, v8, none] = .ok ((List.range (a + p + 1)).map fun i => .int ((topE most s t s' t' i : Nat) : Int)) [some (wd s t), some (wd s' t'), some (.bl most), v3, some (.int (a : Int)), some (.int (p : Int)), v6, v7, v8, none] := by
    unfold fComp
    rw [er, Out.bind_ok, if_pos (by rw [List.length_map, List.length_range]; exact limS (by omega))]
    rw [compP_all (g := fun i : Nat => D.int ((i : Nat) : Int)) (h := fun i => D.int ((topE most s t s' t' i : Nat) : Int)) (List.range (a + p + 1)) fun i hi => ?_]
    · rfl
    · have hi := List.mem_range.mp hi
      have b1 := told_wd h k most (n := i) (by omega)
      refine ⟨[some (wd s t), some (wd s' t'), some (.bl most), v3, some (.int (a : Int)), some (.int (p : Int)), v6, v7, some (.int (i : Int)), none], [some (wd s t), some (wd s' t'), some (.bl most), v3, some (.int (a : Int)), some (.int (p : Int)), v6, v7, some (.int (i : Int)), none], [some (wd s t), some (wd s' t'), some (.bl most), v3, some (.int (a : Int)), some (.int (p : Int)), v6, v7, some (.int (i : Int)), none], rfl, rfl, ?_⟩
      simp only [runF, runR, start0, sRet, sSeq, sIf, sSet, sSetL, sPar, sParL, sAsg, sExpr, sSetIx, sApp, sAug, sNx, sBad, sBk, sRetN, thenS, fVar, fC, fOp, fUn, fTst, fNot, fAnd, fOr, fIf, fNil, fCons, fTup, fCall, fAndV, fOrV, fChain, fIsi, fIsi2, isTy, fSl, fNoPart, fPart, fM1, fCallF, fOwnIx, fRow, fOfL, fLstL, gfN, gfT, gfC, gfNil, Out.bind, ofO, opCmp, opIx, opAdd, opSub, unNeg, unNot, opSl, bLen, bInt, List.getElem?_cons_zero, List.getElem?_cons_succ, List.getElem?_nil, List.set_cons_zero, List.set_cons_succ, List.map_cons, List.map_nil, List.length_cons, List.length_nil, List.replicate_succ, List.replicate_zero, List.cons_append, List.nil_append, List.append_nil, if_true, if_false, ite_true, ite_false, reduceIte, Nat.reduceAdd, Nat.reduceSub, Nat.reduceLeDiff, Bool.not_true, Bool.not_false, Bool.false_eq_true, decide_true, decide_false, Option.map_some, Option.bind_some, Nat.zero_add, Nat.le_refl, String.reduceBEq, Bool.or_false, Bool.or_self, Bool.or_true, Bool.false_or, Bool.true_or, b1]
  have hCl : ((List.range (a + p + 1)).map fun i => D.int ((topE most s t s' t' i : Nat) : Int)).length = a + p + 1 := by rw [List.length_map, List.length_range]
  have hCg : ∀ i, i < a + p + 1 → ((List.range (a + p + 1)).map fun i => D.int ((topE most s t s' t' i : Nat) : Int))[i]? = some (.int ((topE most s t s' t' i : Nat) : Int)) := fun i hi => by
    rw [List.getElem?_map, List.getElem?_range hi]
    rfl
  generalize ((List.range (a + p + 1)).map fun i => D.int ((topE most s t s' t' i : Nat) : Int)) = C at *
  have er2 : fRng2 (fC (.int 1)) (fCall bLen (fCons (fVar 9) fNil)) [some (wd s t), some (wd s' t'), some (.bl most), v3, some (.int (a : Int)), some (.int (p : Int)), v6, v7, v8, some (.lst C)] = .ok ((List.range (a + p)).map fun i : Nat => .int ((i + 1 : Nat) : Int)) [some (wd s t), some (wd s' t'), some (.bl most), v3, some (.int (a : Int)), some (.int (p : Int)), v6, v7, v8, some (.lst C)] := by
    have k2 : (1 : Int).natAbs ≤ lim ∧ ((a + p + 1 : Nat) : Int).natAbs ≤ lim := ⟨limS (show 1 ≤ 1000000 by omega), limS (show a + p + 1 ≤ 1000000 by omega)⟩
    have k3 : (((a + p + 1 : Nat) : Int) - 1).toNat = a + p := by omega
    have e : ((List.range (a + p)).map fun i : Nat => D.int ((i + 1 : Nat) : Int)) = (List.range (a + p)).map fun i : Nat => D.int (1 + (i : Int)) := List.map_congr_left fun i _ => by
      congr 1
      omega
    rw [e]
    clear e2 ha hp4 ec er
    simp only [runF, runR, start0, sRet, sSeq, sIf, sSet, sSetL, sPar, sParL, sAsg, sExpr, sSetIx, sApp, sAug, sNx, sBad, sBk, sRetN, thenS, fVar, fC, fOp, fUn, fTst, fNot, fAnd, fOr, fIf, fNil, fCons, fTup, fCall, fAndV, fOrV, fChain, fIsi, fIsi2, isTy, fSl, fNoPart, fPart, fM1, fCallF, fOwnIx, fRow, fOfL, fLstL, gfN, gfT, gfC, gfNil, Out.bind, ofO, opCmp, opIx, opAdd, opSub, unNeg, unNot, opSl, bLen, bInt, List.getElem?_cons_zero, List.getElem?_cons_succ, List.getElem?_nil, List.set_cons_zero, List.set_cons_succ, List.map_cons, List.map_nil, List.length_cons, List.length_nil, List.replicate_succ, List.replicate_zero, List.cons_append, List.nil_append, List.append_nil, if_true, if_false, ite_true, ite_false, reduceIte, Nat.reduceAdd, Nat.reduceSub, Nat.reduceLeDiff, Bool.not_true, Bool.not_false, Bool.false_eq_true, decide_true, decide_false, Option.map_some, Option.bind_some, Nat.zero_add, Nat.le_refl, String.reduceBEq, Bool.or_false, Bool.or_self, Bool.or_true, Bool.false_or, Bool.true_or, fRng2, hCl, if_pos k2, k3, numD_map]
  have ec2 : fComp [8] (fRng2 (fC (.int 1)) (fCall bLen (fCons (fVar 9) fNil))) (gfN 8) fYes (fOp (opCmp fun i j => decide (j < i)) (fOp opIx (fVar 9) (fVar 8)) (fOp opIx (fVar 9) (fOp opSub (fVar 8) (fC (.int 1))))) [some (wd s t), some (wd s' t'), some (.bl most), v3, some (.int (a : Int)), some (.int (p : Int)), v6, v7, v8, some (.lst C)] = .ok (bitsD (chX most s t s' t') (a + p)) [some (wd s t), some (wd s' t'), some (.bl most), v3, some (.int (a : Int)), some (.int (p : Int)), v6, v7, v8, some (.lst C)] := by
    unfold fComp
    rw [er2, Out.bind_ok, if_pos (by rw [List.length_map, List.length_range]; exact limS (by omega))]
    rw [compP_all (g := fun i : Nat => D.int ((i + 1 : Nat) : Int)) (h := fun i => D.bl (chX most s t s' t' i == 49)) (List.range (a + p)) fun i hi => ?_]
    · rfl
    · have hi := List.mem_range.mp hi
      have g1 := ix_nat (hCg (i + 1) (by omega))
      have g2 := ix_nat (hCg i (by omega))
      have e9 : ((i + 1 : Nat) : Int) - 1 = (i : Int) := by omega
      refine ⟨[some (wd s t), some (wd s' t'), some (.bl most), v3, some (.int (a : Int)), some (.int (p : Int)), v6, v7, some (.int ((i + 1 : Nat) : Int)), some (.lst C)], [some (wd s t), some (wd s' t'), some (.bl most), v3, some (.int (a : Int)), some (.int (p : Int)), v6, v7, some (.int ((i + 1 : Nat) : Int)), some (.lst C)], [some (wd s t), some (wd s' t'), some (.bl most), v3, some (.int (a : Int)), some (.int (p : Int)), v6, v7, some (.int ((i + 1 : Nat) : Int)), some (.lst C)], rfl, rfl, ?_⟩
      unfold chX
      by_cases q : topE most s t s' t' i < topE most s t s' t' (i + 1)
      · have q2 : ((topE most s t s' t' i : Nat) : Int) < ((topE most s t s' t' (i + 1) : Nat) : Int) := by omega
        simp only [runF, runR, start0, sRet, sSeq, sIf, sSet, sSetL, sPar, sParL, sAsg, sExpr, sSetIx, sApp, sAug, sNx, sBad, sBk, sRetN, thenS, fVar, fC, fOp, fUn, fTst, fNot, fAnd, fOr, fIf, fNil, fCons, fTup, fCall, fAndV, fOrV, fChain, fIsi, fIsi2, isTy, fSl, fNoPart, fPart, fM1, fCallF, fOwnIx, fRow, fOfL, fLstL, gfN, gfT, gfC, gfNil, Out.bind, ofO, opCmp, opIx, opAdd, opSub, unNeg, unNot, opSl, bLen, bInt, List.getElem?_cons_zero, List.getElem?_cons_succ, List.getElem?_nil, List.set_cons_zero, List.set_cons_succ, List.map_cons, List.map_nil, List.length_cons, List.length_nil, List.replicate_succ, List.replicate_zero, List.cons_append, List.nil_append, List.append_nil, if_true, if_false, ite_true, ite_false, reduceIte, Nat.reduceAdd, Nat.reduceSub, Nat.reduceLeDiff, Bool.not_true, Bool.not_false, Bool.false_eq_true, decide_true, decide_false, Option.map_some, Option.bind_some, Nat.zero_add, Nat.le_refl, String.reduceBEq, Bool.or_false, Bool.or_self, Bool.or_true, Bool.false_or, Bool.true_or, g1, g2, e9, decide_eq_true q2, if_pos q]
        rfl
      · have q2 : ¬ ((topE most s t s' t' i : Nat) : Int) < ((topE most s t s' t' (i + 1) : Nat) : Int) := by omega
        simp only [runF, runR, start0, sRet, sSeq, sIf, sSet, sSetL, sPar, sParL, sAsg, sExpr, sSetIx, sApp, sAug, sNx, sBad, sBk, sRetN, thenS, fVar, fC, fOp, fUn, fTst, fNot, fAnd, fOr, fIf, fNil, fCons, fTup, fCall, fAndV, fOrV, fChain, fIsi, fIsi2, isTy, fSl, fNoPart, fPart, fM1, fCallF, fOwnIx, fRow, fOfL, fLstL, gfN, gfT, gfC, gfNil, Out.bind, ofO, opCmp, opIx, opAdd, opSub, unNeg, unNot, opSl, bLen, bInt, List.getElem?_cons_zero, List.getElem?_cons_succ, List.getElem?_nil, List.set_cons_zero, List.set_cons_succ, List.map_cons, List.map_nil, List.length_cons, List.length_nil, List.replicate_succ, List.replicate_zero, List.cons_append, List.nil_append, List.append_nil, if_true, if_false, ite_true, ite_false, reduceIte, Nat.reduceAdd, Nat.reduceSub, Nat.reduceLeDiff, Bool.not_true, Bool.not_false, Bool.false_eq_true, decide_true, decide_false, Option.map_some, Option.bind_some, Nat.zero_add, Nat.le_refl, String.reduceBEq, Bool.or_false, Bool.or_self, Bool.or_true, Bool.false_or, Bool.true_or, g1, g2, e9, decide_eq_false q2, if_neg q]
        rfl
  refine ⟨[some (wd s t), some (wd s' t'), some (.bl most), v3, some (.int (a : Int)), some (.int (p : Int)), v6, v7, v8, some (.lst C)], ?_⟩
  unfold tailC
  generalize fComp [8] (fRng1 (fOp opAdd (fOp opAdd (fVar 4) (fVar 5)) (fC (.int 1)))) (gfN 8) fYes (fCallF m_told_count (fCons (fVar 0) (fCons (fVar 1) (fCons (fVar 8) (fCons (fVar 2) fNil))))) = f1 at *
  generalize fComp [8] (fRng2 (fC (.int 1)) (fCall bLen (fCons (fVar 9) fNil))) (gfN 8) fYes (fOp (opCmp fun i j => decide (j < i)) (fOp opIx (fVar 9) (fVar 8)) (fOp opIx (fVar 9) (fOp opSub (fVar 8) (fC (.int 1))))) = f2 at *
  generalize bitsD (chX most s t s' t') (a + p) = B at *
  simp only [runF, runR, start0, sRet, sSeq, sIf, sSet, sSetL, sPar, sParL, sAsg, sExpr, sSetIx, sApp, sAug, sNx, sBad, sBk, sRetN, thenS, fVar, fC, fOp, fUn, fTst, fNot, fAnd, fOr, fIf, fNil, fCons, fTup, fCall, fAndV, fOrV, fChain, fIsi, fIsi2, isTy, fSl, fNoPart, fPart, fM1, fCallF, fOwnIx, fRow, fOfL, fLstL, gfN, gfT, gfC, gfNil, Out.bind, ofO, opCmp, opIx, opAdd, opSub, unNeg, unNot, opSl, bLen, bInt, List.getElem?_cons_zero, List.getElem?_cons_succ, List.getElem?_nil, List.set_cons_zero, List.set_cons_succ, List.map_cons, List.map_nil, List.length_cons, List.length_nil, List.replicate_succ, List.replicate_zero, List.cons_append, List.nil_append, List.append_nil, if_true, if_false, ite_true, ite_false, reduceIte, Nat.reduceAdd, Nat.reduceSub, Nat.reduceLeDiff, Bool.not_true, Bool.not_false, Bool.false_eq_true, decide_true, decide_false, Option.map_some, Option.bind_some, Nat.zero_add, Nat.le_refl, String.reduceBEq, Bool.or_false, Bool.or_self, Bool.or_true, Bool.false_or, Bool.true_or, ec, ec2, e2]
end Lw

namespace Lw
open PySem PySem.Spec PyProof PyProof.Rows DL ES
theorem topN_add (most : Bool) (a b c : Nat) : topN most (a + c) (b + c) = topN most a b + c := by
  unfold topN
  split <;> omega
theorem ch_per0 {most : Bool} {s t s' t' : List Nat} (hl : 0 < t.length) (hl' : 0 < t'.length) (hd : WT.drf t t' = 0) : WT.Per (chX most s t s' t') (max s.length s'.length) (Nat.lcm t.length t'.length) := by
  have key : ∀ n, max s.length s'.length ≤ n → topE most s t s' t' (n + Nat.lcm t.length t'.length) = topE most s t s' t' n + Nat.lcm t.length t'.length / t.length * t.count 49 := fun n hn => by
    unfold topE
    rw [WT.cnt_lcm (s := s) (a := n) (by omega) (Nat.dvd_lcm_left _ _) hl, WT.cnt_lcm (s := s') (a := n) (by omega) (Nat.dvd_lcm_right _ _) hl']
    unfold WT.drf at hd
    rw [show Nat.lcm t.length t'.length / t'.length * t'.count 49 = Nat.lcm t.length t'.length / t.length * t.count 49 by omega]
    exact topN_add _ _ _ _
  intro n hn
  unfold chX
  rw [show n + Nat.lcm t.length t'.length + 1 = n + 1 + Nat.lcm t.length t'.length by omega, key n hn, key (n + 1) (by omega)]
  by_cases q : topE most s t s' t' n < topE most s t s' t' (n + 1)
  · rw [if_pos q, if_pos (by omega)]
  · rw [if_neg q, if_neg (by omega)]
theorem ch_bit {most : Bool} {s t s' t' sl tl : List Nat} {n : Nat} (h1 : topE most s t s' t' n = WT.cnt sl tl n) (h2 : topE most s t s' t' (n + 1) = WT.cnt sl tl (n + 1)) : chX most s t s' t' n = if WT.sat sl tl n = 49 then 49 else 48 := by
  unfold chX
  rw [h1, h2, WT.cnt_succ]
  by_cases q : WT.sat sl tl n = 49
  · rw [if_pos q, if_pos q, if_pos (by omega)]
  · rw [if_neg q, if_neg q, if_neg (by omega)]
theorem ch_per1 {most : Bool} {s t s' t' sl tl : List Nat} {a : Nat} (hE : ∀ n, a ≤ n → topE most s t s' t' n = WT.cnt sl tl n) (hl : sl.length ≤ a) : WT.Per (chX most s t s' t') a tl.length := fun n hn => by
  rw [ch_bit (hE _ (by omega)) (hE _ (by omega)), ch_bit (hE _ (by omega)) (hE _ (by omega)), WT.sat_per (by omega)]
def bodyC : FS := (sIf (fTst (fOp opNe (fCallF m_told_count (fCons (fVar 6) (fCons (fVar 7) (fCons (fVar 8) (fCons (fVar 2) fNil))))) (fCallF m_ones_of (fCons (fVar 6) (fCons (fVar 8) fNil))))) sBad sNx)
theorem loop_C {sl tl so to : List Nat} (h : Wd sl tl 1000) (k : Wd so to 1000) (most : Bool) (v0 v1 v3 v4 v5 : Option D) (hE : ∀ n, 400 ≤ n → topE most sl tl so to n = WT.cnt sl tl n) : ∀ (m n : Nat) (y : Option D), 400 ≤ n → n + m ≤ 100000 →
    ∃ z, loopF (gfN 8) bodyC (numD (n : Int) m) [v0, v1, some (.bl most), v3, v4, v5, some (wd sl tl), some (wd so to), y, none] = .nx [v0, v1, some (.bl most), v3, v4, v5, some (wd sl tl), some (wd so to), z, none]
  | 0, n, y, _, _ => ⟨y, rfl⟩
  | m + 1, n, y, h1, h2 => by
    obtain ⟨z, hz⟩ := loop_C h k most v0 v1 v3 v4 v5 hE m (n + 1) (some (.int (n : Int))) (by omega) (by omega)
    refine ⟨z, ?_⟩
    have b1 := told_wd h k most (n := n) (by omega)
    have b2 := ones_of_wd h n (by omega)
    rw [hE n h1] at b1
    rw [WT.onesF_eq h.ne] at b2
    have hb : bodyC [v0, v1, some (.bl most), v3, v4, v5, some (wd sl tl), some (wd so to), some (.int (n : Int)), none] = .nx [v0, v1, some (.bl most), v3, v4, v5, some (wd sl tl), some (wd so to), some (.int (n : Int)), none] := by
      unfold bodyC
      simp only [runF, runR, start0, sRet, sSeq, sIf, sSet, sSetL, sPar, sParL, sAsg, sExpr, sSetIx, sApp, sAug, sNx, sBad, sBk, sRetN, thenS, fVar, fC, fOp, fUn, fTst, fNot, fAnd, fOr, fIf, fNil, fCons, fTup, fCall, fAndV, fOrV, fChain, fIsi, fIsi2, isTy, fSl, fNoPart, fPart, fM1, fCallF, fOwnIx, fRow, fOfL, fLstL, gfN, gfT, gfC, gfNil, Out.bind, ofO, opCmp, opIx, opAdd, opSub, unNeg, unNot, opSl, bLen, bInt, List.getElem?_cons_zero, List.getElem?_cons_succ, List.getElem?_nil, List.set_cons_zero, List.set_cons_succ, List.map_cons, List.map_nil, List.length_cons, List.length_nil, List.replicate_succ, List.replicate_zero, List.cons_append, List.nil_append, List.append_nil, if_true, if_false, ite_true, ite_false, reduceIte, Nat.reduceAdd, Nat.reduceSub, Nat.reduceLeDiff, Bool.not_true, Bool.not_false, Bool.false_eq_true, decide_true, decide_false, Option.map_some, Option.bind_some, Nat.zero_add, Nat.le_refl, String.reduceBEq, Bool.or_false, Bool.or_self, Bool.or_true, Bool.false_or, Bool.true_or, b1, b2, neI, beq_self_eq_true]
    show loopF (gfN 8) bodyC (.int (n : Int) :: numD ((n : Int) + 1) m) _ = _
    unfold loopF
    have e2 : gfN 8 (.int (n : Int)) [v0, v1, some (.bl most), v3, v4, v5, some (wd sl tl), some (wd so to), y, none] = some [v0, v1, some (.bl most), v3, v4, v5, some (wd sl tl), some (wd so to), some (.int (n : Int)), none] := rfl
    simp only [e2]
    rw [hb]
    exact hz
/-- which of the two is followed in the end -/
def lastW (most : Bool) (s t s' t' : List Nat) : (List Nat × List Nat) × (List Nat × List Nat) := if (decide (0 < WT.drf t t') == most) = true then ((s, t), (s', t')) else ((s', t'), (s, t))
def midC : FS := (sSeq (sAsg (fIf (fTst (fOp opEq (fOp (opCmp fun i j => decide (j < i)) (fVar 3) (fC (.int 0))) (fVar 2))) (fTup (fCons (fVar 0) (fCons (fVar 1) fNil))) (fTup (fCons (fVar 1) (fCons (fVar 0) fNil)))) (gfT 2 (gfC (gfN 6) (gfC (gfN 7) gfNil))))
  (sSeq (sFor (fRng2 (fC (.int 400)) (fOp opAdd (fOp opAdd (fC (.int 400)) (fVar 5)) (fC (.int 1)))) (gfN 8) bodyC)
  (sPar 4 5 (fC (.int 400)) (fCall bLen (fCons (fOp opIx (fVar 6) (fC (.int 1))) fNil)))))
theorem mid_C {sl tl so to : List Nat} (h : Wd sl tl 1000) (k : Wd so to 1000) (most : Bool) (w0 w1 : D) (dr : Int) (v4 : Option D) {p : Nat} (hp : p ≤ 90000) (hE : ∀ n, 400 ≤ n → topE most sl tl so to n = WT.cnt sl tl n)
    (hw : (fIf (fTst (fOp opEq (fOp (opCmp fun i j => decide (j < i)) (fVar 3) (fC (.int 0))) (fVar 2))) (fTup (fCons (fVar 0) (fCons (fVar 1) fNil))) (fTup (fCons (fVar 1) (fCons (fVar 0) fNil)))) [some w0, some w1, some (.bl most), some (.int dr), v4, some (.int (p : Int)), none, none, none, none] = .ok (.tup [wd sl tl, wd so to]) [some w0, some w1, some (.bl most), some (.int dr), v4, some (.int (p : Int)), none, none, none, none]) :
    ∃ z, midC [some w0, some w1, some (.bl most), some (.int dr), v4, some (.int (p : Int)), none, none, none, none] = .nx [some w0, some w1, some (.bl most), some (.int dr), some (.int ((400 : Nat) : Int)), some (.int (tl.length : Int)), some (wd sl tl), some (wd so to), z, none] := by
  have lt := h.lt
  obtain ⟨z, hz⟩ := loop_C h k most (some w0) (some w1) (some (.int dr)) v4 (some (.int (p : Int))) hE (p + 1) 400 none (Nat.le_refl _) (by omega)
  have k2 : (400 : Int).natAbs ≤ lim ∧ ((400 : Int) + (p : Int) + 1).natAbs ≤ lim := ⟨limS (show 400 ≤ 1000000 by omega), limS (show 400 + p + 1 ≤ 1000000 by omega)⟩
  have k3 : ((400 : Int) + (p : Int) + 1 - 400).toNat = p + 1 := by omega
  have eit : fRng2 (fC (.int 400)) (fOp opAdd (fOp opAdd (fC (.int 400)) (fVar 5)) (fC (.int 1))) [some w0, some w1, some (.bl most), some (.int dr), v4, some (.int (p : Int)), some (wd sl tl), some (wd so to), none, none] = .ok (numD 400 (p + 1)) [some w0, some w1, some (.bl most), some (.int dr), v4, some (.int (p : Int)), some (wd sl tl), some (wd so to), none, none] := by
    clear hz hw hE hp
    simp only [runF, runR, start0, sRet, sSeq, sIf, sSet, sSetL, sPar, sParL, sAsg, sExpr, sSetIx, sApp, sAug, sNx, sBad, sBk, sRetN, thenS, fVar, fC, fOp, fUn, fTst, fNot, fAnd, fOr, fIf, fNil, fCons, fTup, fCall, fAndV, fOrV, fChain, fIsi, fIsi2, isTy, fSl, fNoPart, fPart, fM1, fCallF, fOwnIx, fRow, fOfL, fLstL, gfN, gfT, gfC, gfNil, Out.bind, ofO, opCmp, opIx, opAdd, opSub, unNeg, unNot, opSl, bLen, bInt, List.getElem?_cons_zero, List.getElem?_cons_succ, List.getElem?_nil, List.set_cons_zero, List.set_cons_succ, List.map_cons, List.map_nil, List.length_cons, List.length_nil, List.replicate_succ, List.replicate_zero, List.cons_append, List.nil_append, List.append_nil, if_true, if_false, ite_true, ite_false, reduceIte, Nat.reduceAdd, Nat.reduceSub, Nat.reduceLeDiff, Bool.not_true, Bool.not_false, Bool.false_eq_true, decide_true, decide_false, Option.map_some, Option.bind_some, Nat.zero_add, Nat.le_refl, String.reduceBEq, Bool.or_false, Bool.or_self, Bool.or_true, Bool.false_or, Bool.true_or, fRng2, if_pos k2, k3]
  have efor : sFor (fRng2 (fC (.int 400)) (fOp opAdd (fOp opAdd (fC (.int 400)) (fVar 5)) (fC (.int 1)))) (gfN 8) bodyC [some w0, some w1, some (.bl most), some (.int dr), v4, some (.int (p : Int)), some (wd sl tl), some (wd so to), none, none] = .nx [some w0, some w1, some (.bl most), some (.int dr), v4, some (.int (p : Int)), some (wd sl tl), some (wd so to), z, none] := by
    unfold sFor
    rw [eit]
    exact hz
  refine ⟨z, ?_⟩
  unfold midC
  generalize sFor (fRng2 (fC (.int 400)) (fOp opAdd (fOp opAdd (fC (.int 400)) (fVar 5)) (fC (.int 1)))) (gfN 8) bodyC = ff at *
  generalize (fIf (fTst (fOp opEq (fOp (opCmp fun i j => decide (j < i)) (fVar 3) (fC (.int 0))) (fVar 2))) (fTup (fCons (fVar 0) (fCons (fVar 1) fNil))) (fTup (fCons (fVar 1) (fCons (fVar 0) fNil)))) = f2 at *
  simp only [runF, runR, start0, sRet, sSeq, sIf, sSet, sSetL, sPar, sParL, sAsg, sExpr, sSetIx, sApp, sAug, sNx, sBad, sBk, sRetN, thenS, fVar, fC, fOp, fUn, fTst, fNot, fAnd, fOr, fIf, fNil, fCons, fTup, fCall, fAndV, fOrV, fChain, fIsi, fIsi2, isTy, fSl, fNoPart, fPart, fM1, fCallF, fOwnIx, fRow, fOfL, fLstL, gfN, gfT, gfC, gfNil, Out.bind, ofO, opCmp, opIx, opAdd, opSub, unNeg, unNot, opSl, bLen, bInt, List.getElem?_cons_zero, List.getElem?_cons_succ, List.getElem?_nil, List.set_cons_zero, List.set_cons_succ, List.map_cons, List.map_nil, List.length_cons, List.length_nil, List.replicate_succ, List.replicate_zero, List.cons_append, List.nil_append, List.append_nil, if_true, if_false, ite_true, ite_false, reduceIte, Nat.reduceAdd, Nat.reduceSub, Nat.reduceLeDiff, Bool.not_true, Bool.not_false, Bool.false_eq_true, decide_true, decide_false, Option.map_some, Option.bind_some, Nat.zero_add, Nat.le_refl, String.reduceBEq, Bool.or_false, Bool.or_self, Bool.or_true, Bool.false_or, Bool.true_or, hw, efor, i1, if_pos (limS (show tl.length ≤ 1000000 by omega))]
  rfl
end Lw

namespace Lw
open PySem PySem.Spec PyProof PyProof.Rows DL ES
theorem chosen_wd {s t s' t' : List Nat} (h : Wd s t 400) (k : Wd s' t' 400) (most : Bool) (hL : Nat.lcm t.length t'.length ≤ 400)
    (hE : WT.drf t t' ≠ 0 → ∀ n, 400 ≤ n → topE most s t s' t' n = WT.cnt (lastW most s t s' t').1.1 (lastW most s t s' t').1.2 n) :
    ∃ a p, 0 < p ∧ a ≤ 400 ∧ p ≤ Nat.lcm t.length t'.length ∧ WT.Per (chX most s t s' t') a p ∧ m_chosen [wd s t, wd s' t', .bl most] = .ok (wd (WT.nfx (chX most s t s' t') a p).1 (WT.nfx (chX most s t s' t') a p).2) := by
  have h1 := h.up (show 400 ≤ 1000 by decide)
  have k1 := k.up (show 400 ≤ 1000 by decide)
  have ls := h.ls
  have ls' := k.ls
  have ed := drift_wd h1 k1
  have e1 := paired_wd h1 k1
  have hp0 := WT.lcm_pos h.pos k.pos
  unfold lensD at e1
  have l2 : 2 ≤ lim := limS (by omega)
  by_cases q : WT.drf t t' = 0
  · have hper := ch_per0 (most := most) (s := s) (s' := s') h.pos k.pos q
    have ha : max s.length s'.length ≤ 400 := by omega
    rw [q] at ed
    generalize max s.length s'.length = a at *
    generalize Nat.lcm t.length t'.length = p at *
    obtain ⟨r, hr⟩ := tail_C h1 k1 most hp0 ha hL (some (.int 0)) none none none
    refine ⟨a, p, hp0, ha, Nat.le_refl _, hper, runF_ret (r := r) (Eq.trans ?_ hr)⟩
    show F_chosen [some (wd s t), some (wd s' t'), some (.bl most), none, none, none, none, none, none, none] = _
    unfold F_chosen
    show sSeq _ (sSeq _ (sSeq _ tailC)) _ = _
    generalize tailC = ff at *
    simp only [runF, runR, start0, sRet, sSeq, sIf, sSet, sSetL, sPar, sParL, sAsg, sExpr, sSetIx, sApp, sAug, sNx, sBad, sBk, sRetN, thenS, fVar, fC, fOp, fUn, fTst, fNot, fAnd, fOr, fIf, fNil, fCons, fTup, fCall, fAndV, fOrV, fChain, fIsi, fIsi2, isTy, fSl, fNoPart, fPart, fM1, fCallF, fOwnIx, fRow, fOfL, fLstL, gfN, gfT, gfC, gfNil, Out.bind, ofO, opCmp, opIx, opAdd, opSub, unNeg, unNot, opSl, bLen, bInt, List.getElem?_cons_zero, List.getElem?_cons_succ, List.getElem?_nil, List.set_cons_zero, List.set_cons_succ, List.map_cons, List.map_nil, List.length_cons, List.length_nil, List.replicate_succ, List.replicate_zero, List.cons_append, List.nil_append, List.append_nil, if_true, if_false, ite_true, ite_false, reduceIte, Nat.reduceAdd, Nat.reduceSub, Nat.reduceLeDiff, Bool.not_true, Bool.not_false, Bool.false_eq_true, decide_true, decide_false, Option.map_some, Option.bind_some, Nat.zero_add, Nat.le_refl, String.reduceBEq, Bool.or_false, Bool.or_self, Bool.or_true, Bool.false_or, Bool.true_or, ed, e1, neI, beq_self_eq_true]
  · have hne : (WT.drf t t' == 0) = false := beq_eq_false_iff_ne.mpr q
    have hE := hE q
    have main : ∀ (sl tl so to : List Nat), tl.length ≤ Nat.lcm t.length t'.length → Wd sl tl 400 → Wd so to 400 → (∀ n, topE most sl tl so to n = topE most s t s' t' n) → (∀ n, 400 ≤ n → topE most s t s' t' n = WT.cnt sl tl n) →
        (∀ (p : Int) (v4 : Option D), (fIf (fTst (fOp opEq (fOp (opCmp fun i j => decide (j < i)) (fVar 3) (fC (.int 0))) (fVar 2))) (fTup (fCons (fVar 0) (fCons (fVar 1) fNil))) (fTup (fCons (fVar 1) (fCons (fVar 0) fNil)))) [some (wd s t), some (wd s' t'), some (.bl most), some (.int (WT.drf t t')), v4, some (.int p), none, none, none, none] = .ok (.tup [wd sl tl, wd so to]) [some (wd s t), some (wd s' t'), some (.bl most), some (.int (WT.drf t t')), v4, some (.int p), none, none, none, none]) →
        ∃ a p, 0 < p ∧ a ≤ 400 ∧ p ≤ Nat.lcm t.length t'.length ∧ WT.Per (chX most s t s' t') a p ∧ m_chosen [wd s t, wd s' t', .bl most] = .ok (wd (WT.nfx (chX most s t s' t') a p).1 (WT.nfx (chX most s t s' t') a p).2) := fun sl tl so to hll hw ho hs he hif => by
      obtain ⟨z, hz⟩ := mid_C (hw.up (show 400 ≤ 1000 by decide)) (ho.up (show 400 ≤ 1000 by decide)) most (wd s t) (wd s' t') (WT.drf t t') (some (.int ((max s.length s'.length : Nat) : Int))) (p := Nat.lcm t.length t'.length) (by omega) (fun n hn => (hs n).trans (he n hn)) (hif _ _)
      obtain ⟨r, hr⟩ := tail_C h1 k1 most (a := 400) hw.pos (Nat.le_refl _) hw.lt (some (.int (WT.drf t t'))) (some (wd sl tl)) (some (wd so to)) z
      refine ⟨400, tl.length, hw.pos, Nat.le_refl _, hll, ch_per1 he hw.ls, runF_ret (r := r) (Eq.trans ?_ hr)⟩
      show F_chosen [some (wd s t), some (wd s' t'), some (.bl most), none, none, none, none, none, none, none] = _
      unfold F_chosen
      show sSeq _ (sSeq _ (sSeq (sIf _ midC _) tailC)) _ = _
      generalize tailC = ff at *
      generalize midC = f2 at *
      generalize WT.drf t t' = dr at *
      simp only [runF, runR, start0, sRet, sSeq, sIf, sSet, sSetL, sPar, sParL, sAsg, sExpr, sSetIx, sApp, sAug, sNx, sBad, sBk, sRetN, thenS, fVar, fC, fOp, fUn, fTst, fNot, fAnd, fOr, fIf, fNil, fCons, fTup, fCall, fAndV, fOrV, fChain, fIsi, fIsi2, isTy, fSl, fNoPart, fPart, fM1, fCallF, fOwnIx, fRow, fOfL, fLstL, gfN, gfT, gfC, gfNil, Out.bind, ofO, opCmp, opIx, opAdd, opSub, unNeg, unNot, opSl, bLen, bInt, List.getElem?_cons_zero, List.getElem?_cons_succ, List.getElem?_nil, List.set_cons_zero, List.set_cons_succ, List.map_cons, List.map_nil, List.length_cons, List.length_nil, List.replicate_succ, List.replicate_zero, List.cons_append, List.nil_append, List.append_nil, if_true, if_false, ite_true, ite_false, reduceIte, Nat.reduceAdd, Nat.reduceSub, Nat.reduceLeDiff, Bool.not_true, Bool.not_false, Bool.false_eq_true, decide_true, decide_false, Option.map_some, Option.bind_some, Nat.zero_add, Nat.le_refl, String.reduceBEq, Bool.or_false, Bool.or_self, Bool.or_true, Bool.false_or, Bool.true_or, ed, e1, neI, hne, hz]
    unfold lastW at hE
    by_cases b : (decide (0 < WT.drf t t') == most) = true
    · rw [if_pos b] at hE
      refine main s t s' t' (Nat.le_of_dvd hp0 (Nat.dvd_lcm_left _ _)) h k (fun _ => rfl) hE fun p v4 => ?_
      simp only [runF, runR, start0, sRet, sSeq, sIf, sSet, sSetL, sPar, sParL, sAsg, sExpr, sSetIx, sApp, sAug, sNx, sBad, sBk, sRetN, thenS, fVar, fC, fOp, fUn, fTst, fNot, fAnd, fOr, fIf, fNil, fCons, fTup, fCall, fAndV, fOrV, fChain, fIsi, fIsi2, isTy, fSl, fNoPart, fPart, fM1, fCallF, fOwnIx, fRow, fOfL, fLstL, gfN, gfT, gfC, gfNil, Out.bind, ofO, opCmp, opIx, opAdd, opSub, unNeg, unNot, opSl, bLen, bInt, List.getElem?_cons_zero, List.getElem?_cons_succ, List.getElem?_nil, List.set_cons_zero, List.set_cons_succ, List.map_cons, List.map_nil, List.length_cons, List.length_nil, List.replicate_succ, List.replicate_zero, List.cons_append, List.nil_append, List.append_nil, if_true, if_false, ite_true, ite_false, reduceIte, Nat.reduceAdd, Nat.reduceSub, Nat.reduceLeDiff, Bool.not_true, Bool.not_false, Bool.false_eq_true, decide_true, decide_false, Option.map_some, Option.bind_some, Nat.zero_add, Nat.le_refl, String.reduceBEq, Bool.or_false, Bool.or_self, Bool.or_true, Bool.false_or, Bool.true_or, eqB, b, if_pos l2]
    · rw [if_neg b] at hE
      have b' : (decide (0 < WT.drf t t') == most) = false := by simpa using b
      refine main s' t' s t (Nat.le_of_dvd hp0 (Nat.dvd_lcm_right _ _)) k h (fun n => topN_comm _ _ _) hE fun p v4 => ?_
      simp only [runF, runR, start0, sRet, sSeq, sIf, sSet, sSetL, sPar, sParL, sAsg, sExpr, sSetIx, sApp, sAug, sNx, sBad, sBk, sRetN, thenS, fVar, fC, fOp, fUn, fTst, fNot, fAnd, fOr, fIf, fNil, fCons, fTup, fCall, fAndV, fOrV, fChain, fIsi, fIsi2, isTy, fSl, fNoPart, fPart, fM1, fCallF, fOwnIx, fRow, fOfL, fLstL, gfN, gfT, gfC, gfNil, Out.bind, ofO, opCmp, opIx, opAdd, opSub, unNeg, unNot, opSl, bLen, bInt, List.getElem?_cons_zero, List.getElem?_cons_succ, List.getElem?_nil, List.set_cons_zero, List.set_cons_succ, List.map_cons, List.map_nil, List.length_cons, List.length_nil, List.replicate_succ, List.replicate_zero, List.cons_append, List.nil_append, List.append_nil, if_true, if_false, ite_true, ite_false, reduceIte, Nat.reduceAdd, Nat.reduceSub, Nat.reduceLeDiff, Bool.not_true, Bool.not_false, Bool.false_eq_true, decide_true, decide_false, Option.map_some, Option.bind_some, Nat.zero_add, Nat.le_refl, String.reduceBEq, Bool.or_false, Bool.or_self, Bool.or_true, Bool.false_or, Bool.true_or, eqB, b', if_pos l2]
/-! within -/
theorem asBls_rng (f : Nat → Bool) (n : Nat) : asBls ((List.range n).map fun i => .bl (f i)) = some ((List.range n).map f) := by
  have := asBls_map ((List.range n).map f)
  rw [List.map_map] at this
  exact this
def In (s t s' t' : List Nat) : Prop := ∀ i, WT.sat s t i = 49 → WT.sat s' t' i = 49
theorem per_pair {s t s' t' : List Nat} (hl : 0 < t.length) (hl' : 0 < t'.length) (i : Nat) : ∃ j, j < max s.length s'.length + Nat.lcm t.length t'.length ∧ WT.sat s t i = WT.sat s t j ∧ WT.sat s' t' i = WT.sat s' t' j := by
  have hL := WT.lcm_pos hl hl'
  rcases Nat.lt_or_ge i (max s.length s'.length) with q | q
  · exact ⟨i, by omega, rfl, rfl⟩
  · have hm : (i - max s.length s'.length) % Nat.lcm t.length t'.length < Nat.lcm t.length t'.length := Nat.mod_lt _ hL
    have e : i = max s.length s'.length + (i - max s.length s'.length) % Nat.lcm t.length t'.length + Nat.lcm t.length t'.length * ((i - max s.length s'.length) / Nat.lcm t.length t'.length) := by
      have := Nat.mod_add_div (i - max s.length s'.length) (Nat.lcm t.length t'.length)
      omega
    have p1 : WT.Per (WT.sat s t) s.length (Nat.lcm t.length t'.length) := WT.per_lcm WT.per_sat
    have p2 : WT.Per (WT.sat s' t') s'.length (Nat.lcm t.length t'.length) := WT.per_lcm' WT.per_sat
    generalize (i - max s.length s'.length) / Nat.lcm t.length t'.length = m at *
    generalize (i - max s.length s'.length) % Nat.lcm t.length t'.length = r at *
    refine ⟨max s.length s'.length + r, by omega, ?_, ?_⟩
    · rw [e]
      exact p1.mul m _ (by omega)
    · rw [e]
      exact p2.mul m _ (by omega)
end Lw

namespace Lw
open PySem PySem.Spec PyProof PyProof.Rows DL ES
theorem bx_d {s t s' t' : List Nat} (k : Bt s') (k2 : Bt t') (hn : t' ≠ []) : BX (WT.dX s t s' t') := fun i => by
  unfold WT.dX
  split
  · exact bt_sat k k2 hn _
  · exact .inl rfl
end Lw

namespace Lw
open PySem PySem.Spec PyProof PyProof.Rows DL ES
/-! the public ones: what they hand back says a sequence, in its normal word -/
structure Says (a p : Nat) (x : Nat → Nat) (s t : List Nat) : Prop where
  bs : Bt s
  bt : Bt t
  ls : s.length ≤ a
  lt : t.length ≤ p
  nf : WT.NF s t
  sat : ∀ i, WT.sat s t i = x i
theorem Says.wd {a p n : Nat} {x : Nat → Nat} {s t : List Nat} (h : Says a p x s t) (ha : a ≤ n) (hp : p ≤ n) : Wd s t n := ⟨h.bs, h.bt, Nat.le_trans h.ls ha, Nat.le_trans h.lt hp, h.nf.ne⟩
theorem says_nfx {x : Nat → Nat} (h : BX x) {a p a' p' : Nat} (hp : 0 < p) (hper : WT.Per x a p) (ha : a ≤ a') (hpp : p ≤ p') : Says a' p' x (WT.nfx x a p).1 (WT.nfx x a p).2 := by
  have hw := nfx_wd h (a := a) (n := max a p) hp (Nat.le_max_left _ _) (Nat.le_max_right _ _)
  have hl := WT.nfx_len x a hp
  exact ⟨hw.bs, hw.bt, Nat.le_trans hl.1 ha, Nat.le_trans hl.2 hpp, WT.nfx_nf x a hp, WT.nfx_sat hp hper⟩
theorem Says.eq {a p b q : Nat} {x y : Nat → Nat} {s t s' t' : List Nat} (h : Says a p x s t) (k : Says b q y s' t') (e : ∀ i, x i = y i) : s = s' ∧ t = t' := h.nf.ext k.nf fun i => by rw [h.sat, k.sat, e]
theorem Says.same {a p b q : Nat} {x y : Nat → Nat} {s t s' t' : List Nat} (h : Says a p x s t) (k : Says b q y s' t') : (s == s' && t == t') = true ↔ ∀ i, x i = y i := by
  rw [Bool.and_eq_true_iff, beq_iff_eq, beq_iff_eq]
  constructor
  · rintro ⟨rfl, rfl⟩ i
    rw [← h.sat, k.sat]
  · exact h.eq k
theorem says_norm {s t : List Nat} {n : Nat} (h : Wd s t n) : Says s.length t.length (WT.sat s t) (WT.normL s t).1 (WT.normL s t).2 := by
  have a := WT.normL_spec (s := s) h.ne
  exact ⟨fun c hc => h.bs c (a.ms c hc), fun c hc => h.bt c (a.mt c hc), a.ls, a.lt, WT.nf_norm h.ne, a.sat⟩
theorem need_words_wd {s t s' t' : List Nat} (h : Wd s t 400) (k : Wd s' t' 400) : m_need_words [wd s t, wd s' t'] = .ok .non := by
  refine runF_nx (r := [some (wd s t), some (wd s' t')]) ?_
  show F_need_words [some (wd s t), some (wd s' t')] = _
  unfold F_need_words
  simp only [runF, runR, start0, sRet, sSeq, sIf, sSet, sSetL, sPar, sParL, sAsg, sExpr, sSetIx, sApp, sAug, sNx, sBad, sBk, sRetN, thenS, fVar, fC, fOp, fUn, fTst, fNot, fAnd, fOr, fIf, fNil, fCons, fTup, fCall, fAndV, fOrV, fChain, fIsi, fIsi2, isTy, fSl, fNoPart, fPart, fM1, fCallF, fOwnIx, fRow, fOfL, fLstL, gfN, gfT, gfC, gfNil, Out.bind, ofO, opCmp, opIx, opAdd, opSub, unNeg, unNot, opSl, bLen, bInt, List.getElem?_cons_zero, List.getElem?_cons_succ, List.getElem?_nil, List.set_cons_zero, List.set_cons_succ, List.map_cons, List.map_nil, List.length_cons, List.length_nil, List.replicate_succ, List.replicate_zero, List.cons_append, List.nil_append, List.append_nil, if_true, if_false, ite_true, ite_false, reduceIte, Nat.reduceAdd, Nat.reduceSub, Nat.reduceLeDiff, Bool.not_true, Bool.not_false, Bool.false_eq_true, decide_true, decide_false, Option.map_some, Option.bind_some, Nat.zero_add, Nat.le_refl, String.reduceBEq, Bool.or_false, Bool.or_self, Bool.or_true, Bool.false_or, Bool.true_or, need_word_wd h, need_word_wd k]
theorem onX_ext {s t s' t' a b a' b' : List Nat} (e : ∀ i, WT.sat a b i = WT.sat s t i) (e' : ∀ i, WT.sat a' b' i = WT.sat s' t' i) (i : Nat) : WT.onX a b a' b' i = WT.onX s t s' t' i := by
  unfold WT.onX
  rw [e, WT.cnt_ext e, e']
end Lw

namespace Lw
open PySem PySem.Spec PyProof PyProof.Rows DL ES
theorem lcm_mono {a b c d : Nat} (h : 0 < a) (k : 0 < b) (h1 : a ≤ c) (h2 : b ≤ d) : Nat.lcm a b ≤ c * d := Nat.le_trans (WT.lcm_le h k) (Nat.mul_le_mul h1 h2)
theorem andX_ext {s t s' t' a b a' b' : List Nat} (e : ∀ i, WT.sat a b i = WT.sat s t i) (e' : ∀ i, WT.sat a' b' i = WT.sat s' t' i) (i : Nat) : andX a b a' b' i = andX s t s' t' i := by
  unfold andX
  rw [e, e']
theorem orX_ext {s t s' t' a b a' b' : List Nat} (e : ∀ i, WT.sat a b i = WT.sat s t i) (e' : ∀ i, WT.sat a' b' i = WT.sat s' t' i) (i : Nat) : orX a b a' b' i = orX s t s' t' i := by
  unfold orX
  rw [e, e']
theorem per_and {s t s' t' : List Nat} : WT.Per (andX s t s' t') (max s.length s'.length) (Nat.lcm t.length t'.length) := WT.per_two (f := fun a b => if a = 49 then b else 48) WT.per_sat WT.per_sat
theorem per_or {s t s' t' : List Nat} : WT.Per (orX s t s' t') (max s.length s'.length) (Nat.lcm t.length t'.length) := WT.per_two (f := fun a b => if a = 49 then 49 else b) WT.per_sat WT.per_sat
theorem gap_wd {s t s' t' : List Nat} (h : Wd s t 400) (k : Wd s' t' 400) : ∃ d, WT.Gap s t s' t' d ∧ m_gap [wd s t, wd s' t'] = .ok (gapD d) := by
  have hL := lcm_mono h.pos k.pos h.lt k.lt
  obtain ⟨d, hd, e⟩ := gap_of_wd (h.up (show 400 ≤ 900 by decide)) (k.up (show 400 ≤ 900 by decide)) (by omega)
  refine ⟨d, hd, runF_ret (r := [some (wd s t), some (wd s' t')]) ?_⟩
  show F_gap [some (wd s t), some (wd s' t')] = _
  unfold F_gap
  simp only [runF, runR, start0, sRet, sSeq, sIf, sSet, sSetL, sPar, sParL, sAsg, sExpr, sSetIx, sApp, sAug, sNx, sBad, sBk, sRetN, thenS, fVar, fC, fOp, fUn, fTst, fNot, fAnd, fOr, fIf, fNil, fCons, fTup, fCall, fAndV, fOrV, fChain, fIsi, fIsi2, isTy, fSl, fNoPart, fPart, fM1, fCallF, fOwnIx, fRow, fOfL, fLstL, gfN, gfT, gfC, gfNil, Out.bind, ofO, opCmp, opIx, opAdd, opSub, unNeg, unNot, opSl, bLen, bInt, List.getElem?_cons_zero, List.getElem?_cons_succ, List.getElem?_nil, List.set_cons_zero, List.set_cons_succ, List.map_cons, List.map_nil, List.length_cons, List.length_nil, List.replicate_succ, List.replicate_zero, List.cons_append, List.nil_append, List.append_nil, if_true, if_false, ite_true, ite_false, reduceIte, Nat.reduceAdd, Nat.reduceSub, Nat.reduceLeDiff, Bool.not_true, Bool.not_false, Bool.false_eq_true, decide_true, decide_false, Option.map_some, Option.bind_some, Nat.zero_add, Nat.le_refl, String.reduceBEq, Bool.or_false, Bool.or_self, Bool.or_true, Bool.false_or, Bool.true_or, need_words_wd h k, e]
theorem is_earlier_wd {s t s' t' : List Nat} (h : Wd s t 400) (k : Wd s' t' 400) : ∃ b : Bool, (b = true ↔ Ahead s t s' t') ∧ m_is_earlier [wd s t, wd s' t'] = .ok (.bl b) := by
  have hL := lcm_mono k.pos h.pos k.lt h.lt
  obtain ⟨d, hd, e⟩ := is_ahead_wd (h.up (show 400 ≤ 900 by decide)) (k.up (show 400 ≤ 900 by decide)) (by omega)
  refine ⟨d, hd, runF_ret (r := [some (wd s t), some (wd s' t')]) ?_⟩
  show F_is_earlier [some (wd s t), some (wd s' t')] = _
  unfold F_is_earlier
  simp only [runF, runR, start0, sRet, sSeq, sIf, sSet, sSetL, sPar, sParL, sAsg, sExpr, sSetIx, sApp, sAug, sNx, sBad, sBk, sRetN, thenS, fVar, fC, fOp, fUn, fTst, fNot, fAnd, fOr, fIf, fNil, fCons, fTup, fCall, fAndV, fOrV, fChain, fIsi, fIsi2, isTy, fSl, fNoPart, fPart, fM1, fCallF, fOwnIx, fRow, fOfL, fLstL, gfN, gfT, gfC, gfNil, Out.bind, ofO, opCmp, opIx, opAdd, opSub, unNeg, unNot, opSl, bLen, bInt, List.getElem?_cons_zero, List.getElem?_cons_succ, List.getElem?_nil, List.set_cons_zero, List.set_cons_succ, List.map_cons, List.map_nil, List.length_cons, List.length_nil, List.replicate_succ, List.replicate_zero, List.cons_append, List.nil_append, List.append_nil, if_true, if_false, ite_true, ite_false, reduceIte, Nat.reduceAdd, Nat.reduceSub, Nat.reduceLeDiff, Bool.not_true, Bool.not_false, Bool.false_eq_true, decide_true, decide_false, Option.map_some, Option.bind_some, Nat.zero_add, Nat.le_refl, String.reduceBEq, Bool.or_false, Bool.or_self, Bool.or_true, Bool.false_or, Bool.true_or, need_words_wd h k, e]
theorem size_wd {s t s' t' : List Nat} (h : Wd s t 400) (k : Wd s' t' 400) : ∃ (b : Bool) (d : Option Int), (b = true ↔ Ahead s t s' t') ∧ WT.Gap s t s' t' d ∧ m_size [wd s t, wd s' t'] = .ok (if b then gapD d else .non) := by
  have hL := lcm_mono k.pos h.pos k.lt h.lt
  have hL2 := lcm_mono h.pos k.pos h.lt k.lt
  obtain ⟨b, hb, e⟩ := is_ahead_wd (h.up (show 400 ≤ 900 by decide)) (k.up (show 400 ≤ 900 by decide)) (by omega)
  obtain ⟨d, hd, e2⟩ := gap_of_wd (h.up (show 400 ≤ 900 by decide)) (k.up (show 400 ≤ 900 by decide)) (by omega)
  refine ⟨b, d, hb, hd, runF_ret (r := [some (wd s t), some (wd s' t')]) ?_⟩
  show F_size [some (wd s t), some (wd s' t')] = _
  unfold F_size
  cases b with
  | true => simp only [runF, runR, start0, sRet, sSeq, sIf, sSet, sSetL, sPar, sParL, sAsg, sExpr, sSetIx, sApp, sAug, sNx, sBad, sBk, sRetN, thenS, fVar, fC, fOp, fUn, fTst, fNot, fAnd, fOr, fIf, fNil, fCons, fTup, fCall, fAndV, fOrV, fChain, fIsi, fIsi2, isTy, fSl, fNoPart, fPart, fM1, fCallF, fOwnIx, fRow, fOfL, fLstL, gfN, gfT, gfC, gfNil, Out.bind, ofO, opCmp, opIx, opAdd, opSub, unNeg, unNot, opSl, bLen, bInt, List.getElem?_cons_zero, List.getElem?_cons_succ, List.getElem?_nil, List.set_cons_zero, List.set_cons_succ, List.map_cons, List.map_nil, List.length_cons, List.length_nil, List.replicate_succ, List.replicate_zero, List.cons_append, List.nil_append, List.append_nil, if_true, if_false, ite_true, ite_false, reduceIte, Nat.reduceAdd, Nat.reduceSub, Nat.reduceLeDiff, Bool.not_true, Bool.not_false, Bool.false_eq_true, decide_true, decide_false, Option.map_some, Option.bind_some, Nat.zero_add, Nat.le_refl, String.reduceBEq, Bool.or_false, Bool.or_self, Bool.or_true, Bool.false_or, Bool.true_or, need_words_wd h k, e, e2]
  | false => simp only [runF, runR, start0, sRet, sSeq, sIf, sSet, sSetL, sPar, sParL, sAsg, sExpr, sSetIx, sApp, sAug, sNx, sBad, sBk, sRetN, thenS, fVar, fC, fOp, fUn, fTst, fNot, fAnd, fOr, fIf, fNil, fCons, fTup, fCall, fAndV, fOrV, fChain, fIsi, fIsi2, isTy, fSl, fNoPart, fPart, fM1, fCallF, fOwnIx, fRow, fOfL, fLstL, gfN, gfT, gfC, gfNil, Out.bind, ofO, opCmp, opIx, opAdd, opSub, unNeg, unNot, opSl, bLen, bInt, List.getElem?_cons_zero, List.getElem?_cons_succ, List.getElem?_nil, List.set_cons_zero, List.set_cons_succ, List.map_cons, List.map_nil, List.length_cons, List.length_nil, List.replicate_succ, List.replicate_zero, List.cons_append, List.nil_append, List.append_nil, if_true, if_false, ite_true, ite_false, reduceIte, Nat.reduceAdd, Nat.reduceSub, Nat.reduceLeDiff, Bool.not_true, Bool.not_false, Bool.false_eq_true, decide_true, decide_false, Option.map_some, Option.bind_some, Nat.zero_add, Nat.le_refl, String.reduceBEq, Bool.or_false, Bool.or_self, Bool.or_true, Bool.false_or, Bool.true_or, need_words_wd h k, e, e2]
end Lw

namespace Lw
open PySem PySem.Spec PyProof PyProof.Rows DL ES
/-- what chosen asks of two words whose drift is not 0 -/
def Ends (most : Bool) (s t s' t' : List Nat) : Prop := WT.drf t t' ≠ 0 → ∀ n, 400 ≤ n → topE most s t s' t' n = WT.cnt (lastW most s t s' t').1.1 (lastW most s t s' t').1.2 n
theorem ends_small {most : Bool} {s t s' t' : List Nat} (hl : 0 < t.length) (hl' : 0 < t'.length) {a L : Nat} (ha : max s.length s'.length ≤ a) (hL : Nat.lcm t.length t'.length = L) (hn : a + L * (a + L) ≤ 400) : Ends most s t s' t' := by
  intro hd n hn2
  have key : ∀ b : Bool, decide (0 < WT.drf t t') = b → (b = true → WT.cnt s' t' n ≤ WT.cnt s t n) ∧ (b = false → WT.cnt s t n ≤ WT.cnt s' t' n) := fun b hb => by
    constructor
    · intro z
      have := WT.G_cross (s := s) (s' := s') hl hl' (of_decide_eq_true (hb.trans z)) ha hL (n := n) (by omega)
      unfold WT.G at this
      omega
    · intro z
      have q := of_decide_eq_false (hb.trans z)
      have := WT.G_cross (s := s') (t := t') (s' := s) (t' := t) hl' hl (by rw [WT.drf_neg]; omega) (a := a) (L := L) (by omega) (by rw [Nat.lcm_comm]; exact hL) (n := n) (by omega)
      unfold WT.G at this
      omega
  obtain ⟨k1, k2⟩ := key _ rfl
  unfold lastW topE topN
  cases hb : decide (0 < WT.drf t t') with
  | true =>
    have := k1 hb
    cases most with
    | true =>
      rw [if_pos rfl, if_pos (by decide)]
      exact Nat.max_eq_left this
    | false =>
      rw [if_neg (by decide), if_neg (by decide)]
      exact Nat.min_eq_right this
  | false =>
    have := k2 hb
    cases most with
    | true =>
      rw [if_pos rfl, if_neg (by decide)]
      exact Nat.max_eq_right this
    | false =>
      rw [if_neg (by decide), if_pos (by decide)]
      exact Nat.min_eq_left this
theorem ends_top {s t s' t' : List Nat} (hl : 0 < t.length) (hl' : 0 < t'.length) (h : ∀ n, WT.cnt s' t' n ≤ WT.cnt s t n) : Ends true s t s' t' := by
  intro hd n _
  have h0 := WT.drf_dom hl hl' h
  unfold lastW topE topN
  rw [decide_eq_true (show 0 < WT.drf t t' by omega), if_pos rfl, if_pos (by decide)]
  exact Nat.max_eq_left (h n)
theorem ends_low {s t s' t' : List Nat} (hl : 0 < t.length) (hl' : 0 < t'.length) (h : ∀ n, WT.cnt s t n ≤ WT.cnt s' t' n) : Ends false s t s' t' := by
  intro hd n _
  have h0 := WT.drf_dom hl' hl h
  rw [WT.drf_neg] at h0
  unfold lastW topE topN
  rw [decide_eq_false (show ¬ 0 < WT.drf t t' by omega), if_neg (by decide), if_pos (by decide)]
  exact Nat.min_eq_left (h n)
theorem chX_ext {most : Bool} {s t s' t' a b a' b' : List Nat} (e : ∀ i, WT.sat a b i = WT.sat s t i) (e' : ∀ i, WT.sat a' b' i = WT.sat s' t' i) (i : Nat) : chX most a b a' b' i = chX most s t s' t' i := by
  unfold chX topE
  rw [WT.cnt_ext e, WT.cnt_ext e', WT.cnt_ext e, WT.cnt_ext e']
theorem earliest_wd {s t s' t' : List Nat} (h : Wd s t 400) (k : Wd s' t' 400) (hL : t.length * t'.length ≤ 400) (hE : Ends true (WT.normL s t).1 (WT.normL s t).2 (WT.normL s' t').1 (WT.normL s' t').2) : ∃ a b, Says 400 (t.length * t'.length) (chX true s t s' t') a b ∧ m_earliest [wd s t, wd s' t'] = .ok (wd a b) := by
  have n1 := says_norm h
  have n2 := says_norm k
  have e1 := normal_of_wd (h.up (show 400 ≤ 1000 by decide))
  have e2 := normal_of_wd (k.up (show 400 ≤ 1000 by decide))
  have w1 := h.norm
  have w2 := k.norm
  generalize (WT.normL s t).1 = s1 at *
  generalize (WT.normL s t).2 = t1 at *
  generalize (WT.normL s' t').1 = s2 at *
  generalize (WT.normL s' t').2 = t2 at *
  have m2 := lcm_mono w1.pos w2.pos n1.lt n2.lt
  obtain ⟨a, p, hp, ha, hpp, hper, e3⟩ := chosen_wd w1 w2 true (by omega) hE
  have hs := says_nfx (bx_ch true s1 t1 s2 t2) hp hper ha (p' := t.length * t'.length) (by omega)
  generalize (WT.nfx (chX true s1 t1 s2 t2) a p).1 = c at *
  generalize (WT.nfx (chX true s1 t1 s2 t2) a p).2 = d at *
  refine ⟨c, d, ⟨hs.bs, hs.bt, hs.ls, hs.lt, hs.nf, fun i => (hs.sat i).trans (chX_ext n1.sat n2.sat i)⟩, runF_ret (r := [some (wd s t), some (wd s' t')]) ?_⟩
  show F_earliest [some (wd s t), some (wd s' t')] = _
  unfold F_earliest
  simp only [runF, runR, start0, sRet, sSeq, sIf, sSet, sSetL, sPar, sParL, sAsg, sExpr, sSetIx, sApp, sAug, sNx, sBad, sBk, sRetN, thenS, fVar, fC, fOp, fUn, fTst, fNot, fAnd, fOr, fIf, fNil, fCons, fTup, fCall, fAndV, fOrV, fChain, fIsi, fIsi2, isTy, fSl, fNoPart, fPart, fM1, fCallF, fOwnIx, fRow, fOfL, fLstL, gfN, gfT, gfC, gfNil, Out.bind, ofO, opCmp, opIx, opAdd, opSub, unNeg, unNot, opSl, bLen, bInt, List.getElem?_cons_zero, List.getElem?_cons_succ, List.getElem?_nil, List.set_cons_zero, List.set_cons_succ, List.map_cons, List.map_nil, List.length_cons, List.length_nil, List.replicate_succ, List.replicate_zero, List.cons_append, List.nil_append, List.append_nil, if_true, if_false, ite_true, ite_false, reduceIte, Nat.reduceAdd, Nat.reduceSub, Nat.reduceLeDiff, Bool.not_true, Bool.not_false, Bool.false_eq_true, decide_true, decide_false, Option.map_some, Option.bind_some, Nat.zero_add, Nat.le_refl, String.reduceBEq, Bool.or_false, Bool.or_self, Bool.or_true, Bool.false_or, Bool.true_or, need_words_wd h k, e1, e2, e3]
theorem latest_wd {s t s' t' : List Nat} (h : Wd s t 400) (k : Wd s' t' 400) (hL : t.length * t'.length ≤ 400) (hE : Ends false (WT.normL s t).1 (WT.normL s t).2 (WT.normL s' t').1 (WT.normL s' t').2) : ∃ a b, Says 400 (t.length * t'.length) (chX false s t s' t') a b ∧ m_latest [wd s t, wd s' t'] = .ok (wd a b) := by
  have n1 := says_norm h
  have n2 := says_norm k
  have e1 := normal_of_wd (h.up (show 400 ≤ 1000 by decide))
  have e2 := normal_of_wd (k.up (show 400 ≤ 1000 by decide))
  have w1 := h.norm
  have w2 := k.norm
  generalize (WT.normL s t).1 = s1 at *
  generalize (WT.normL s t).2 = t1 at *
  generalize (WT.normL s' t').1 = s2 at *
  generalize (WT.normL s' t').2 = t2 at *
  have m2 := lcm_mono w1.pos w2.pos n1.lt n2.lt
  obtain ⟨a, p, hp, ha, hpp, hper, e3⟩ := chosen_wd w1 w2 false (by omega) hE
  have hs := says_nfx (bx_ch false s1 t1 s2 t2) hp hper ha (p' := t.length * t'.length) (by omega)
  generalize (WT.nfx (chX false s1 t1 s2 t2) a p).1 = c at *
  generalize (WT.nfx (chX false s1 t1 s2 t2) a p).2 = d at *
  refine ⟨c, d, ⟨hs.bs, hs.bt, hs.ls, hs.lt, hs.nf, fun i => (hs.sat i).trans (chX_ext n1.sat n2.sat i)⟩, runF_ret (r := [some (wd s t), some (wd s' t')]) ?_⟩
  show F_latest [some (wd s t), some (wd s' t')] = _
  unfold F_latest
  simp only [runF, runR, start0, sRet, sSeq, sIf, sSet, sSetL, sPar, sParL, sAsg, sExpr, sSetIx, sApp, sAug, sNx, sBad, sBk, sRetN, thenS, fVar, fC, fOp, fUn, fTst, fNot, fAnd, fOr, fIf, fNil, fCons, fTup, fCall, fAndV, fOrV, fChain, fIsi, fIsi2, isTy, fSl, fNoPart, fPart, fM1, fCallF, fOwnIx, fRow, fOfL, fLstL, gfN, gfT, gfC, gfNil, Out.bind, ofO, opCmp, opIx, opAdd, opSub, unNeg, unNot, opSl, bLen, bInt, List.getElem?_cons_zero, List.getElem?_cons_succ, List.getElem?_nil, List.set_cons_zero, List.set_cons_succ, List.map_cons, List.map_nil, List.length_cons, List.length_nil, List.replicate_succ, List.replicate_zero, List.cons_append, List.nil_append, List.append_nil, if_true, if_false, ite_true, ite_false, reduceIte, Nat.reduceAdd, Nat.reduceSub, Nat.reduceLeDiff, Bool.not_true, Bool.not_false, Bool.false_eq_true, decide_true, decide_false, Option.map_some, Option.bind_some, Nat.zero_add, Nat.le_refl, String.reduceBEq, Bool.or_false, Bool.or_self, Bool.or_true, Bool.false_or, Bool.true_or, need_words_wd h k, e1, e2, e3]
end Lw

namespace Lw
open PySem PySem.Spec PyProof PyProof.Rows DL ES
theorem dX_ext {s t s' t' a b a' b' : List Nat} (e : ∀ i, WT.sat a b i = WT.sat s t i) (e' : ∀ i, WT.sat a' b' i = WT.sat s' t' i) (j : Nat) : WT.dX a b a' b' j = WT.dX s t s' t' j := by
  by_cases q : j + 1 ≤ (WT.spotsL s).length ∨ WT.spotsL t ≠ []
  · obtain ⟨n, n1, n2⟩ := WT.one_at j q
    have m1 : WT.sat a b n = 49 := by rw [e]; exact n1
    have m2 : WT.cnt a b n = j := by rw [WT.cnt_ext e]; exact n2
    have d1 := WT.dX_at (s' := s') (t' := t') n1
    have d2 := WT.dX_at (s' := a') (t' := b') m1
    rw [n2] at d1
    rw [m2] at d2
    rw [d1, d2, e']
  · by_cases z : j + 1 ≤ (WT.spotsL a).length ∨ WT.spotsL b ≠ []
    · exfalso
      obtain ⟨n, n1, n2⟩ := WT.one_at j z
      rw [e] at n1
      rw [WT.cnt_ext e] at n2
      have := WT.live_at n1
      rw [n2] at this
      exact q this
    · unfold WT.dX
      rw [if_neg q, if_neg z]
end Lw

namespace Lw
open PySem PySem.Spec PyProof PyProof.Rows DL ES
end Lw

namespace Lw
open PySem PySem.Spec PyProof PyProof.Rows DL ES
end Lw

namespace Lw
open PySem PySem.Spec PyProof PyProof.Rows DL ES
theorem says_ne {a p b q : Nat} {x y : Nat → Nat} {s t s' t' : List Nat} (h : Says a p x s t) (k : Says b q y s' t') (e : x = y) : opNe (wd s t) (wd s' t') = some (.bl false) := by
  rw [neW h.bs h.bt k.bs k.bt, (h.same k).mpr fun i => by rw [e]]
  rfl
theorem says_eq {a p b q : Nat} {x y : Nat → Nat} {s t s' t' : List Nat} (h : Says a p x s t) (k : Says b q y s' t') : ∃ c : Bool, (c = true ↔ x = y) ∧ opEq (wd s t) (wd s' t') = some (.bl c) := by
  refine ⟨_, ?_, eqW h.bs h.bt k.bs k.bt⟩
  rw [h.same k]
  exact ⟨fun z => funext z, fun z i => by rw [z]⟩
theorem Says.fn {a p : Nat} {x : Nat → Nat} {s t : List Nat} (h : Says a p x s t) : WT.sat s t = x := funext h.sat
end Lw

namespace Lw
open PySem PySem.Spec PyProof PyProof.Rows DL ES
theorem andX_a (s t s' t' : List Nat) : andX s t s' t' = WT.aX (WT.sat s t) (WT.sat s' t') := rfl
theorem orX_r (s t s' t' : List Nat) : orX s t s' t' = WT.rX (WT.sat s t) (WT.sat s' t') := rfl
theorem b1_sat {s t : List Nat} {n : Nat} (h : Wd s t n) : WT.B1 (WT.sat s t) := fun i => bt_sat h.bs h.bt h.ne i
theorem sat_one (i : Nat) : WT.sat [] [49] i = 49 := by
  unfold WT.sat WT.cyc
  simp [Nat.mod_one]
theorem wd_one : Wd [] [49] 4 := ⟨bt_nil, fun c hc => .inr (List.mem_singleton.mp hc), by simp, by simp, by simp⟩
theorem cntX_one : ∀ n, WT.cntX (WT.sat [] [49]) n = n
  | 0 => rfl
  | n + 1 => by
    show WT.cntX (WT.sat [] [49]) n + (if WT.sat [] [49] n = 49 then 1 else 0) = _
    rw [cntX_one n, sat_one, if_pos rfl]
theorem oX_one {x : Nat → Nat} (h : WT.B1 x) : WT.oX x (WT.sat [] [49]) = x := by
  funext i
  unfold WT.oX
  rw [sat_one]
  rcases h i with q | q <;> simp [q]
theorem one_oX (x : Nat → Nat) : WT.oX (WT.sat [] [49]) x = x := by
  funext i
  unfold WT.oX
  rw [sat_one, if_pos rfl, cntX_one]
theorem says_zero {a p : Nat} {x : Nat → Nat} {s t : List Nat} (h : Says a p x s t) (e : x = fun _ => 48) : s = [] ∧ t = [48] := by
  have nf : WT.NF [] [48] := ⟨by simp, fun j h1 h2 _ => by simp at h2; omega, .inl rfl⟩
  refine h.nf.ext nf fun i => ?_
  rw [h.sat, e]
  unfold WT.sat WT.cyc
  simp [Nat.mod_one]
theorem placeD_is {s t : List Nat} {n q : Nat} (h1 : WT.sat s t q = 49) (h2 : WT.cnt s t q + 1 = n) : placeD s t n = .int ((q + 1 : Nat) : Int) := by
  obtain ⟨a, b⟩ := WT.place_is h1 h2
  unfold placeD
  rw [if_pos a, b]
theorem placeD_no {s t : List Nat} {n : Nat} (hn : 0 < n) (h : ∀ q, WT.cnt s t q < n) : placeD s t n = .non := by
  unfold placeD
  rw [if_neg (WT.place_no hn h)]
theorem ne_int (i : Int) : opNe (.int i) (.int i) = some (.bl false) := by
  rw [neI, beq_self_eq_true]
  rfl
theorem ne_non : opNe .non .non = some (.bl false) := rfl
theorem loop_step {tgt : FG} {body : FS} {d : D} {ds : List D} {ρ ρt ρ' : Rho} (h1 : tgt d ρ = some ρt) (h2 : body ρt = .nx ρ') : loopF tgt body (d :: ds) ρ = loopF tgt body ds ρ' := by
  conv => lhs; unfold loopF
  simp only [h1, h2]
theorem topE_step (most : Bool) (s t s' t' : List Nat) (n : Nat) : topE most s t s' t' (n + 1) = topE most s t s' t' n ∨ topE most s t s' t' (n + 1) = topE most s t s' t' n + 1 := by
  unfold topE topN
  have a := WT.cnt_step s t n
  have b := WT.cnt_step s' t' n
  cases most with
  | true =>
    rw [if_pos rfl, if_pos rfl]
    omega
  | false =>
    rw [if_neg (by decide), if_neg (by decide)]
    omega
theorem cntX_ch (most : Bool) (s t s' t' : List Nat) : ∀ n, WT.cntX (chX most s t s' t') n = topE most s t s' t' n
  | 0 => by
    unfold topE topN
    cases most <;> rfl
  | n + 1 => by
    show WT.cntX (chX most s t s' t') n + (if chX most s t s' t' n = 49 then 1 else 0) = _
    rw [cntX_ch most s t s' t' n]
    have := topE_step most s t s' t' n
    unfold chX
    by_cases q : topE most s t s' t' n < topE most s t s' t' (n + 1)
    · rw [if_pos q, if_pos rfl]
      omega
    · rw [if_neg q, if_neg (by decide)]
      omega
theorem cnt_ch {most : Bool} {s t s' t' a b : List Nat} {p q : Nat} (c : Says p q (chX most s t s' t') a b) (n : Nat) : WT.cnt a b n = topE most s t s' t' n := (WT.cntX_eq c.sat n).trans (cntX_ch most s t s' t' n)
theorem sat_of_cnt {s t a b : List Nat} (hb : WT.B1 (WT.sat s t)) (hb' : WT.B1 (WT.sat a b)) (e : ∀ n, WT.cnt a b n = WT.cnt s t n) (i : Nat) : WT.sat a b i = WT.sat s t i := by
  have h := e i
  have h2 := e (i + 1)
  rw [WT.cnt_succ, WT.cnt_succ, h] at h2
  rcases hb i with q | q <;> rcases hb' i with r | r <;> rw [q, r] at h2 ⊢ <;> simp at h2
theorem chX_is {most : Bool} {s t s' t' u v : List Nat} (hb : WT.B1 (WT.sat u v)) (e : ∀ n, topE most s t s' t' n = WT.cnt u v n) : chX most s t s' t' = WT.sat u v := by
  funext i
  unfold chX
  rw [e, e, WT.cnt_succ]
  rcases hb i with q | q <;> rw [q] <;> simp
theorem Says.upp {a p a' p' : Nat} {x : Nat → Nat} {s t : List Nat} (h : Says a p x s t) (ha : a ≤ a') (hp : p ≤ p') : Says a' p' x s t := ⟨h.bs, h.bt, Nat.le_trans h.ls ha, Nat.le_trans h.lt hp, h.nf, h.sat⟩
theorem low_le {s t s' t' c d : List Nat} {p q : Nat} (cl : Says p q (chX false s t s' t') c d) (n : Nat) : WT.cnt c d n ≤ WT.cnt s t n := by
  rw [cnt_ch cl]
  exact Nat.min_le_left _ _
theorem le_top {s t s' t' c d : List Nat} {p q : Nat} (cl : Says p q (chX true s t s' t') c d) (n : Nat) : WT.cnt s t n ≤ WT.cnt c d n := by
  rw [cnt_ch cl]
  exact Nat.le_max_left _ _
theorem cnt_norm {s t : List Nat} {n : Nat} (h : Wd s t n) (i : Nat) : WT.cnt (WT.normL s t).1 (WT.normL s t).2 i = WT.cnt s t i := WT.cnt_ext (says_norm h).sat i
theorem ne_int' {i j : Int} (h : i = j) : opNe (.int i) (.int j) = some (.bl false) := by
  rw [h]
  exact ne_int j
theorem rng1_num {ρ : Rho} (n : Nat) (h : n ≤ 1000000) : fRng1 (fC (.int (n : Int))) ρ = .ok ((List.range n).map fun i : Nat => .int (i : Int)) ρ := by
  have e1 : ((n : Int)).natAbs ≤ lim := limS (by omega)
  have e2 : ((n : Int)).toNat = n := by omega
  simp only [runF, runR, start0, sRet, sSeq, sIf, sSet, sSetL, sPar, sParL, sAsg, sExpr, sSetIx, sApp, sAug, sNx, sBad, sBk, sRetN, thenS, fVar, fC, fOp, fUn, fTst, fNot, fAnd, fOr, fIf, fNil, fCons, fTup, fCall, fAndV, fOrV, fChain, fIsi, fIsi2, isTy, fSl, fNoPart, fPart, fM1, fCallF, fOwnIx, fRow, fOfL, fLstL, gfN, gfT, gfC, gfNil, Out.bind, ofO, opCmp, opIx, opAdd, opSub, unNeg, unNot, opSl, bLen, bInt, List.getElem?_cons_zero, List.getElem?_cons_succ, List.getElem?_nil, List.set_cons_zero, List.set_cons_succ, List.map_cons, List.map_nil, List.length_cons, List.length_nil, List.replicate_succ, List.replicate_zero, List.cons_append, List.nil_append, List.append_nil, if_true, if_false, ite_true, ite_false, reduceIte, Nat.reduceAdd, Nat.reduceSub, Nat.reduceLeDiff, Bool.not_true, Bool.not_false, Bool.false_eq_true, decide_true, decide_false, Option.map_some, Option.bind_some, Nat.zero_add, Nat.le_refl, String.reduceBEq, Bool.or_false, Bool.or_self, Bool.or_true, Bool.false_or, Bool.true_or, fRng1, if_pos e1, e2]
  rw [numD_map]
  simp
theorem a30 (a b c : D) : L2.atI [a, b, c] 0 = some a := rfl
theorem a31 (a b c : D) : L2.atI [a, b, c] 1 = some b := rfl
theorem a32 (a b c : D) : L2.atI [a, b, c] 2 = some c := rfl
theorem isnt_gap (d : Option Int) : opIsnt (gapD d) .non = some (.bl d.isSome) := by cases d <;> rfl
theorem is_gap (d : Option Int) : opIs (gapD d) .non = some (.bl d.isNone) := by cases d <;> rfl
theorem gap_eq0 (d : Option Int) : opEq (gapD d) (.int 0) = some (.bl (d == some 0)) := by
  cases d with
  | none => kernel_rfl
  | some M => rw [show gapD (some M) = .int M from rfl, eqI]; rfl
theorem seq_nx {F G : FS} {ρ ρ1 : Rho} (h : F ρ = .nx ρ1) : sSeq F G ρ = G ρ1 := by
  unfold sSeq
  rw [h]
end Lw

namespace Lw
open PySem PySem.Spec PyProof PyProof.Rows DL ES
theorem ones_of_cnt {s t : List Nat} (h : Wd s t 1000) (n : Nat) (hn : n ≤ 2000000000) : m_ones_of [wd s t, .int (n : Int)] = .ok (.int ((WT.cnt s t n : Nat) : Int)) := by
  rw [ones_of_wd h n hn, WT.onesF_eq h.ne]
/-! the first fault -/
def wantS : List Nat := [119, 97, 110, 116]
def fullS : List Nat := [102, 117, 108, 108]
def faultD (s t s' t' : List Nat) : Option Nat → D
  | none => .non
  | some n => .tup [.int (n : Int), .str (if WT.G s t s' t' n < 0 then wantS else fullS)]
theorem faultD_some (s t s' t' : List Nat) (n : Nat) : faultD s t s' t' (some n) = .tup [.int (n : Int), .str (if WT.G s t s' t' n < 0 then wantS else fullS)] := rfl
def bodyF : FS := (sSeq (sAug (fun i j => i + j) 5 (fC (.int 1)))
  (sSeq (sSet 6 (fOp opSub (fCallF m_ones_of (fCons (fVar 0) (fCons (fVar 5) fNil))) (fCallF m_ones_of (fCons (fVar 1) (fCons (fVar 5) fNil)))))
  (sSeq (sIf (fTst (fOp (opCmp fun i j => decide (i < j)) (fVar 6) (fC (.int 0)))) (sRet (fTup (fCons (fVar 5) (fCons (fC (.str [119, 97, 110, 116])) fNil)))) sNx)
  (sSeq (sIf (fTst (fOp (opCmp fun i j => decide (j < i)) (fVar 6) (fVar 2))) (sRet (fTup (fCons (fVar 5) (fCons (fC (.str [102, 117, 108, 108])) fNil)))) sNx)
  (sSeq (sIf (fAnd (fTst (fOp (opCmp fun i j => decide (j ≤ i)) (fVar 5) (fOp opAdd (fVar 3) (fVar 4)))) (fTst (fOp opEq (fCallF m_drift (fCons (fVar 0) (fCons (fVar 1) fNil))) (fC (.int 0))))) (sRet (fC .non)) sNx)
  (sIf (fAnd (fTst (fOp (opCmp fun i j => decide (j ≤ i)) (fVar 5) (fOp opAdd (fVar 3) (fVar 4)))) (fAnd (fTst (fOp opIsnt (fCallF m_total_of (fCons (fVar 0) fNil)) (fC .non))) (fTst (fOp opIsnt (fCallF m_total_of (fCons (fVar 1) fNil)) (fC .non))))) (sRet (fC .non)) sNx))))))
theorem isnt_total {s t : List Nat} (b : Prop) [Decidable b] (i : Int) : opIsnt (if b then D.non else .int i) .non = some (.bl (!decide b)) := by
  by_cases q : b
  · rw [if_pos q, decide_eq_true q]
    rfl
  · rw [if_neg q, decide_eq_false q]
    rfl
theorem body_F {s t s' t' : List Nat} (h : Wd s t 1000) (k : Wd s' t' 1000) (p : Int) {a L : Nat} (b : Nat) (hb : b < 1000000) (v6 : Option D) :
    (WT.Flt s t s' t' p (b + 1) ∧ ∃ r, bodyF [some (wd s t), some (wd s' t'), some (.int p), some (.int (a : Int)), some (.int (L : Int)), some (.int (b : Int)), v6] = .ret (faultD s t s' t' (some (b + 1))) r) ∨
    (¬ WT.Flt s t s' t' p (b + 1) ∧ ((a + L ≤ b + 1 ∧ WT.drf t t' = 0 ∧ ∃ r, bodyF [some (wd s t), some (wd s' t'), some (.int p), some (.int (a : Int)), some (.int (L : Int)), some (.int (b : Int)), v6] = .ret .non r) ∨
      ((b + 1 < a + L ∨ WT.drf t t' ≠ 0) ∧ ∃ v, bodyF [some (wd s t), some (wd s' t'), some (.int p), some (.int (a : Int)), some (.int (L : Int)), some (.int (b : Int)), v6] = .nx [some (wd s t), some (wd s' t'), some (.int p), some (.int (a : Int)), some (.int (L : Int)), some (.int ((b + 1 : Nat) : Int)), v]))) := by
  have e1 := ones_of_cnt h (b + 1) (by omega)
  have e2 := ones_of_cnt k (b + 1) (by omega)
  have e3 := drift_wd h k
  have e4 := total_of_wd h
  have e5 := total_of_wd k
  have es : (b : Int) + 1 = ((b + 1 : Nat) : Int) := by omega
  have ea : (a : Int) + (L : Int) = ((a + L : Nat) : Int) := by omega
  have l2 : 2 ≤ lim := limS (by omega)
  have eg : ((WT.cnt s t (b + 1) : Nat) : Int) - ((WT.cnt s' t' (b + 1) : Nat) : Int) = WT.G s t s' t' (b + 1) := rfl
  rw [faultD_some]
  unfold WT.Flt
  have dd : WT.drf t t' ≠ 0 → 49 ∈ t ∨ 49 ∈ t' := fun z => by
    by_cases q : 49 ∈ t
    · exact .inl q
    · by_cases q' : 49 ∈ t'
      · exact .inr q'
      · exact (z (WT.dead_drf q q')).elim
  have i1 := isnt_total (s := s) (t := t) (49 ∈ t) ((s.count 49 : Nat) : Int)
  have i2 := isnt_total (s := s) (t := t) (49 ∈ t') ((s'.count 49 : Nat) : Int)
  generalize (if 49 ∈ t then D.non else .int ((s.count 49 : Nat) : Int)) = T1 at *
  generalize (if 49 ∈ t' then D.non else .int ((s'.count 49 : Nat) : Int)) = T2 at *
  generalize WT.G s t s' t' (b + 1) = g at *
  generalize WT.cnt s t (b + 1) = c1 at *
  generalize WT.cnt s' t' (b + 1) = c2 at *
  generalize WT.drf t t' = dr at *
  generalize b + 1 = n at *
  unfold bodyF
  by_cases q1 : g < 0
  · left
    rw [if_pos q1]
    refine ⟨.inl q1, [some (wd s t), some (wd s' t'), some (.int p), some (.int (a : Int)), some (.int (L : Int)), some (.int (n : Int)), some (.int g)], ?_⟩
    simp only [runF, runR, start0, sRet, sSeq, sIf, sSet, sSetL, sPar, sParL, sAsg, sExpr, sSetIx, sApp, sAug, sNx, sBad, sBk, sRetN, thenS, fVar, fC, fOp, fUn, fTst, fNot, fAnd, fOr, fIf, fNil, fCons, fTup, fCall, fAndV, fOrV, fChain, fIsi, fIsi2, isTy, fSl, fNoPart, fPart, fM1, fCallF, fOwnIx, fRow, fOfL, fLstL, gfN, gfT, gfC, gfNil, Out.bind, ofO, opCmp, opIx, opAdd, opSub, unNeg, unNot, opSl, bLen, bInt, List.getElem?_cons_zero, List.getElem?_cons_succ, List.getElem?_nil, List.set_cons_zero, List.set_cons_succ, List.map_cons, List.map_nil, List.length_cons, List.length_nil, List.replicate_succ, List.replicate_zero, List.cons_append, List.nil_append, List.append_nil, if_true, if_false, ite_true, ite_false, reduceIte, Nat.reduceAdd, Nat.reduceSub, Nat.reduceLeDiff, Bool.not_true, Bool.not_false, Bool.false_eq_true, decide_true, decide_false, Option.map_some, Option.bind_some, Nat.zero_add, Nat.le_refl, String.reduceBEq, Bool.or_false, Bool.or_self, Bool.or_true, Bool.false_or, Bool.true_or, e1, e2, es, eg, decide_eq_true q1, if_pos l2, show (5 : Nat) < 7 from by decide, show (6 : Nat) < 7 from by decide]
    rfl
  · by_cases q2 : p < g
    · left
      rw [if_neg q1]
      refine ⟨.inr q2, [some (wd s t), some (wd s' t'), some (.int p), some (.int (a : Int)), some (.int (L : Int)), some (.int (n : Int)), some (.int g)], ?_⟩
      simp only [runF, runR, start0, sRet, sSeq, sIf, sSet, sSetL, sPar, sParL, sAsg, sExpr, sSetIx, sApp, sAug, sNx, sBad, sBk, sRetN, thenS, fVar, fC, fOp, fUn, fTst, fNot, fAnd, fOr, fIf, fNil, fCons, fTup, fCall, fAndV, fOrV, fChain, fIsi, fIsi2, isTy, fSl, fNoPart, fPart, fM1, fCallF, fOwnIx, fRow, fOfL, fLstL, gfN, gfT, gfC, gfNil, Out.bind, ofO, opCmp, opIx, opAdd, opSub, unNeg, unNot, opSl, bLen, bInt, List.getElem?_cons_zero, List.getElem?_cons_succ, List.getElem?_nil, List.set_cons_zero, List.set_cons_succ, List.map_cons, List.map_nil, List.length_cons, List.length_nil, List.replicate_succ, List.replicate_zero, List.cons_append, List.nil_append, List.append_nil, if_true, if_false, ite_true, ite_false, reduceIte, Nat.reduceAdd, Nat.reduceSub, Nat.reduceLeDiff, Bool.not_true, Bool.not_false, Bool.false_eq_true, decide_true, decide_false, Option.map_some, Option.bind_some, Nat.zero_add, Nat.le_refl, String.reduceBEq, Bool.or_false, Bool.or_self, Bool.or_true, Bool.false_or, Bool.true_or, e1, e2, es, eg, decide_eq_false q1, decide_eq_true q2, if_pos l2, show (5 : Nat) < 7 from by decide, show (6 : Nat) < 7 from by decide]
      rfl
    · right
      refine ⟨fun z => z.elim q1 q2, ?_⟩
      by_cases q3 : a + L ≤ n
      · have d3 : decide (((a + L : Nat) : Int) ≤ (n : Int)) = true := decide_eq_true (by omega)
        by_cases q4 : dr = 0
        · left
          subst q4
          refine ⟨q3, rfl, [some (wd s t), some (wd s' t'), some (.int p), some (.int (a : Int)), some (.int (L : Int)), some (.int (n : Int)), some (.int g)], ?_⟩
          simp only [runF, runR, start0, sRet, sSeq, sIf, sSet, sSetL, sPar, sParL, sAsg, sExpr, sSetIx, sApp, sAug, sNx, sBad, sBk, sRetN, thenS, fVar, fC, fOp, fUn, fTst, fNot, fAnd, fOr, fIf, fNil, fCons, fTup, fCall, fAndV, fOrV, fChain, fIsi, fIsi2, isTy, fSl, fNoPart, fPart, fM1, fCallF, fOwnIx, fRow, fOfL, fLstL, gfN, gfT, gfC, gfNil, Out.bind, ofO, opCmp, opIx, opAdd, opSub, unNeg, unNot, opSl, bLen, bInt, List.getElem?_cons_zero, List.getElem?_cons_succ, List.getElem?_nil, List.set_cons_zero, List.set_cons_succ, List.map_cons, List.map_nil, List.length_cons, List.length_nil, List.replicate_succ, List.replicate_zero, List.cons_append, List.nil_append, List.append_nil, if_true, if_false, ite_true, ite_false, reduceIte, Nat.reduceAdd, Nat.reduceSub, Nat.reduceLeDiff, Bool.not_true, Bool.not_false, Bool.false_eq_true, decide_true, decide_false, Option.map_some, Option.bind_some, Nat.zero_add, Nat.le_refl, String.reduceBEq, Bool.or_false, Bool.or_self, Bool.or_true, Bool.false_or, Bool.true_or, e1, e2, e3, es, ea, eg, decide_eq_false q1, decide_eq_false q2, d3, eqI, beq_self_eq_true, show (5 : Nat) < 7 from by decide, show (6 : Nat) < 7 from by decide]
        · right
          refine ⟨.inr q4, some (.int g), ?_⟩
          have d4 : (dr == 0) = false := beq_eq_false_iff_ne.mpr q4
          rcases dd q4 with z | z
          · rw [decide_eq_true z] at i1
            simp only [runF, runR, start0, sRet, sSeq, sIf, sSet, sSetL, sPar, sParL, sAsg, sExpr, sSetIx, sApp, sAug, sNx, sBad, sBk, sRetN, thenS, fVar, fC, fOp, fUn, fTst, fNot, fAnd, fOr, fIf, fNil, fCons, fTup, fCall, fAndV, fOrV, fChain, fIsi, fIsi2, isTy, fSl, fNoPart, fPart, fM1, fCallF, fOwnIx, fRow, fOfL, fLstL, gfN, gfT, gfC, gfNil, Out.bind, ofO, opCmp, opIx, opAdd, opSub, unNeg, unNot, opSl, bLen, bInt, List.getElem?_cons_zero, List.getElem?_cons_succ, List.getElem?_nil, List.set_cons_zero, List.set_cons_succ, List.map_cons, List.map_nil, List.length_cons, List.length_nil, List.replicate_succ, List.replicate_zero, List.cons_append, List.nil_append, List.append_nil, if_true, if_false, ite_true, ite_false, reduceIte, Nat.reduceAdd, Nat.reduceSub, Nat.reduceLeDiff, Bool.not_true, Bool.not_false, Bool.false_eq_true, decide_true, decide_false, Option.map_some, Option.bind_some, Nat.zero_add, Nat.le_refl, String.reduceBEq, Bool.or_false, Bool.or_self, Bool.or_true, Bool.false_or, Bool.true_or, e1, e2, e3, e4, es, ea, eg, decide_eq_false q1, decide_eq_false q2, d3, eqI, d4, i1, show (5 : Nat) < 7 from by decide, show (6 : Nat) < 7 from by decide]
          · rw [decide_eq_true z] at i2
            cases hz : decide (49 ∈ t) with
            | true =>
              rw [hz] at i1
              simp only [runF, runR, start0, sRet, sSeq, sIf, sSet, sSetL, sPar, sParL, sAsg, sExpr, sSetIx, sApp, sAug, sNx, sBad, sBk, sRetN, thenS, fVar, fC, fOp, fUn, fTst, fNot, fAnd, fOr, fIf, fNil, fCons, fTup, fCall, fAndV, fOrV, fChain, fIsi, fIsi2, isTy, fSl, fNoPart, fPart, fM1, fCallF, fOwnIx, fRow, fOfL, fLstL, gfN, gfT, gfC, gfNil, Out.bind, ofO, opCmp, opIx, opAdd, opSub, unNeg, unNot, opSl, bLen, bInt, List.getElem?_cons_zero, List.getElem?_cons_succ, List.getElem?_nil, List.set_cons_zero, List.set_cons_succ, List.map_cons, List.map_nil, List.length_cons, List.length_nil, List.replicate_succ, List.replicate_zero, List.cons_append, List.nil_append, List.append_nil, if_true, if_false, ite_true, ite_false, reduceIte, Nat.reduceAdd, Nat.reduceSub, Nat.reduceLeDiff, Bool.not_true, Bool.not_false, Bool.false_eq_true, decide_true, decide_false, Option.map_some, Option.bind_some, Nat.zero_add, Nat.le_refl, String.reduceBEq, Bool.or_false, Bool.or_self, Bool.or_true, Bool.false_or, Bool.true_or, e1, e2, e3, e4, es, ea, eg, decide_eq_false q1, decide_eq_false q2, d3, eqI, d4, i1, show (5 : Nat) < 7 from by decide, show (6 : Nat) < 7 from by decide]
            | false =>
              rw [hz] at i1
              simp only [runF, runR, start0, sRet, sSeq, sIf, sSet, sSetL, sPar, sParL, sAsg, sExpr, sSetIx, sApp, sAug, sNx, sBad, sBk, sRetN, thenS, fVar, fC, fOp, fUn, fTst, fNot, fAnd, fOr, fIf, fNil, fCons, fTup, fCall, fAndV, fOrV, fChain, fIsi, fIsi2, isTy, fSl, fNoPart, fPart, fM1, fCallF, fOwnIx, fRow, fOfL, fLstL, gfN, gfT, gfC, gfNil, Out.bind, ofO, opCmp, opIx, opAdd, opSub, unNeg, unNot, opSl, bLen, bInt, List.getElem?_cons_zero, List.getElem?_cons_succ, List.getElem?_nil, List.set_cons_zero, List.set_cons_succ, List.map_cons, List.map_nil, List.length_cons, List.length_nil, List.replicate_succ, List.replicate_zero, List.cons_append, List.nil_append, List.append_nil, if_true, if_false, ite_true, ite_false, reduceIte, Nat.reduceAdd, Nat.reduceSub, Nat.reduceLeDiff, Bool.not_true, Bool.not_false, Bool.false_eq_true, decide_true, decide_false, Option.map_some, Option.bind_some, Nat.zero_add, Nat.le_refl, String.reduceBEq, Bool.or_false, Bool.or_self, Bool.or_true, Bool.false_or, Bool.true_or, e1, e2, e3, e4, e5, es, ea, eg, decide_eq_false q1, decide_eq_false q2, d3, eqI, d4, i1, i2, show (5 : Nat) < 7 from by decide, show (6 : Nat) < 7 from by decide]
      · right
        have d3 : decide (((a + L : Nat) : Int) ≤ (n : Int)) = false := decide_eq_false (by omega)
        refine ⟨.inl (by omega), some (.int g), ?_⟩
        simp only [runF, runR, start0, sRet, sSeq, sIf, sSet, sSetL, sPar, sParL, sAsg, sExpr, sSetIx, sApp, sAug, sNx, sBad, sBk, sRetN, thenS, fVar, fC, fOp, fUn, fTst, fNot, fAnd, fOr, fIf, fNil, fCons, fTup, fCall, fAndV, fOrV, fChain, fIsi, fIsi2, isTy, fSl, fNoPart, fPart, fM1, fCallF, fOwnIx, fRow, fOfL, fLstL, gfN, gfT, gfC, gfNil, Out.bind, ofO, opCmp, opIx, opAdd, opSub, unNeg, unNot, opSl, bLen, bInt, List.getElem?_cons_zero, List.getElem?_cons_succ, List.getElem?_nil, List.set_cons_zero, List.set_cons_succ, List.map_cons, List.map_nil, List.length_cons, List.length_nil, List.replicate_succ, List.replicate_zero, List.cons_append, List.nil_append, List.append_nil, if_true, if_false, ite_true, ite_false, reduceIte, Nat.reduceAdd, Nat.reduceSub, Nat.reduceLeDiff, Bool.not_true, Bool.not_false, Bool.false_eq_true, decide_true, decide_false, Option.map_some, Option.bind_some, Nat.zero_add, Nat.le_refl, String.reduceBEq, Bool.or_false, Bool.or_self, Bool.or_true, Bool.false_or, Bool.true_or, e1, e2, es, ea, eg, decide_eq_false q1, decide_eq_false q2, d3, show (5 : Nat) < 7 from by decide, show (6 : Nat) < 7 from by decide]
theorem loop_F {s t s' t' : List Nat} (h : Wd s t 1000) (k : Wd s' t' 1000) (p : Int) {a L : Nat} (ha : max s.length s'.length = a) (hL : Nat.lcm t.length t'.length = L) : ∀ (c b fu : Nat) (v6 : Option D),
    (∀ m, 1 ≤ m → m ≤ b → ¬ WT.Flt s t s' t' p m) → (b < a + L ∨ WT.drf t t' ≠ 0) → (WT.drf t t' = 0 ∧ a + L ≤ b + c ∨ ∃ n, 1 ≤ n ∧ n ≤ b + c ∧ WT.Flt s t s' t' p n) → c < fu → b + c ≤ 1000000 →
    ∃ r d, WT.FirstF s t s' t' p d ∧ whileF (fTst (fC (.bl true))) bodyF fu [some (wd s t), some (wd s' t'), some (.int p), some (.int (a : Int)), some (.int (L : Int)), some (.int (b : Int)), v6] = .ret (faultD s t s' t' d) r
  | 0, b, fu, v6, h1, h2, h3, _, _ => by
    rcases h3 with ⟨h3, h4⟩ | ⟨n, n1, n2, n3⟩
    · omega
    · exact (h1 n n1 n2 n3).elim
  | c + 1, b, 0, v6, h1, h2, h3, hf, hc => by omega
  | c + 1, b, fu + 1, v6, h1, h2, h3, hf, hc => by
    have hw : ∀ ρ : Rho, whileF (fTst (fC (.bl true))) bodyF (fu + 1) ρ = match bodyF ρ with
      | .nx ρ' => whileF (fTst (fC (.bl true))) bodyF fu ρ'
      | .ct ρ' => whileF (fTst (fC (.bl true))) bodyF fu ρ'
      | .bk ρ' => .nx ρ'
      | o => o := fun ρ => rfl
    rcases body_F h k p (a := a) (L := L) b (by omega) v6 with ⟨z, r, e⟩ | ⟨z, ⟨q1, q2, r, e⟩ | ⟨q, v, e⟩⟩
    · refine ⟨r, some (b + 1), .some _ (by omega) z fun m m1 m2 => h1 m m1 (by omega), ?_⟩
      rw [hw, e]
    · refine ⟨r, none, WT.first_none h.pos k.pos q2 (b := b + 1) (by omega) fun m m1 m2 => ?_, ?_⟩
      · rcases Nat.lt_or_ge b m with y | y
        · rw [show m = b + 1 by omega]
          exact z
        · exact h1 m m1 y
      · rw [hw, e]
        rfl
    · obtain ⟨r, d, hd, e2⟩ := loop_F h k p ha hL c (b + 1) fu v (fun m m1 m2 => by
        rcases Nat.lt_or_ge b m with y | y
        · rw [show m = b + 1 by omega]
          exact z
        · exact h1 m m1 y) q (by
          rcases h3 with ⟨h3, h4⟩ | ⟨n, n1, n2, n3⟩
          · exact .inl ⟨h3, by omega⟩
          · exact .inr ⟨n, n1, by omega, n3⟩) (by omega) (by omega)
      refine ⟨r, d, hd, ?_⟩
      rw [hw, e]
      exact e2
theorem fault_of_wd {s t s' t' : List Nat} (h : Wd s t 1000) (k : Wd s' t' 1000) (p : Int) {B : Nat} (hB : WT.drf t t' = 0 ∧ max s.length s'.length + Nat.lcm t.length t'.length ≤ B ∨ ∃ n, 1 ≤ n ∧ n ≤ B ∧ WT.Flt s t s' t' p n) (hB2 : B ≤ 900000) :
    ∃ d, WT.FirstF s t s' t' p d ∧ m_fault_of [wd s t, wd s' t', .int p] = .ok (faultD s t s' t' d) := by
  have e1 := paired_wd h k
  have hL := WT.lcm_pos h.pos k.pos
  obtain ⟨r, d, hd, e⟩ := loop_F h k p rfl rfl B 0 fuel none (fun m m1 m2 => by omega) (.inl (by omega)) (by rw [Nat.zero_add]; exact hB) (by show B < 1000000; omega) (by omega)
  unfold lensD at e1
  refine ⟨d, hd, runF_ret (r := r) (Eq.trans ?_ e)⟩
  show F_fault_of [some (wd s t), some (wd s' t'), some (.int p), none, none, none, none] = _
  unfold F_fault_of
  show sSeq _ (sSeq _ (sWhile (fTst (fC (.bl true))) bodyF)) _ = _
  generalize max s.length s'.length = a at *
  generalize Nat.lcm t.length t'.length = L at *
  simp only [runF, runR, start0, sRet, sSeq, sIf, sSet, sSetL, sPar, sParL, sAsg, sExpr, sSetIx, sApp, sAug, sNx, sBad, sBk, sRetN, thenS, fVar, fC, fOp, fUn, fTst, fNot, fAnd, fOr, fIf, fNil, fCons, fTup, fCall, fAndV, fOrV, fChain, fIsi, fIsi2, isTy, fSl, fNoPart, fPart, fM1, fCallF, fOwnIx, fRow, fOfL, fLstL, gfN, gfT, gfC, gfNil, Out.bind, ofO, opCmp, opIx, opAdd, opSub, unNeg, unNot, opSl, bLen, bInt, List.getElem?_cons_zero, List.getElem?_cons_succ, List.getElem?_nil, List.set_cons_zero, List.set_cons_succ, List.map_cons, List.map_nil, List.length_cons, List.length_nil, List.replicate_succ, List.replicate_zero, List.cons_append, List.nil_append, List.append_nil, if_true, if_false, ite_true, ite_false, reduceIte, Nat.reduceAdd, Nat.reduceSub, Nat.reduceLeDiff, Bool.not_true, Bool.not_false, Bool.false_eq_true, decide_true, decide_false, Option.map_some, Option.bind_some, Nat.zero_add, Nat.le_refl, String.reduceBEq, Bool.or_false, Bool.or_self, Bool.or_true, Bool.false_or, Bool.true_or, e1, sWhile, show (3 : Nat) < 7 from by decide, show (4 : Nat) < 7 from by decide, show (5 : Nat) < 7 from by decide]
  rfl
theorem first_fault_wd {s t s' t' : List Nat} (h : Wd s t 400) (k : Wd s' t' 400) {p : Int} (hp : 0 ≤ p) (hp2 : p ≤ 400) {B : Nat} (hB : WT.drf t t' = 0 ∧ max s.length s'.length + Nat.lcm t.length t'.length ≤ B ∨ ∃ n, 1 ≤ n ∧ n ≤ B ∧ WT.Flt s t s' t' p n) (hB2 : B ≤ 900000) :
    ∃ d, WT.FirstF s t s' t' p d ∧ m_first_fault [wd s t, wd s' t', .int p] = .ok (faultD s t s' t' d) := by
  obtain ⟨d, hd, e⟩ := fault_of_wd (h.up (show 400 ≤ 1000 by decide)) (k.up (show 400 ≤ 1000 by decide)) p hB hB2
  have en := need_number_int hp hp2
  refine ⟨d, hd, runF_ret (r := [some (wd s t), some (wd s' t'), some (.int p)]) ?_⟩
  show F_first_fault [some (wd s t), some (wd s' t'), some (.int p)] = _
  unfold F_first_fault
  simp only [runF, runR, start0, sRet, sSeq, sIf, sSet, sSetL, sPar, sParL, sAsg, sExpr, sSetIx, sApp, sAug, sNx, sBad, sBk, sRetN, thenS, fVar, fC, fOp, fUn, fTst, fNot, fAnd, fOr, fIf, fNil, fCons, fTup, fCall, fAndV, fOrV, fChain, fIsi, fIsi2, isTy, fSl, fNoPart, fPart, fM1, fCallF, fOwnIx, fRow, fOfL, fLstL, gfN, gfT, gfC, gfNil, Out.bind, ofO, opCmp, opIx, opAdd, opSub, unNeg, unNot, opSl, bLen, bInt, List.getElem?_cons_zero, List.getElem?_cons_succ, List.getElem?_nil, List.set_cons_zero, List.set_cons_succ, List.map_cons, List.map_nil, List.length_cons, List.length_nil, List.replicate_succ, List.replicate_zero, List.cons_append, List.nil_append, List.append_nil, if_true, if_false, ite_true, ite_false, reduceIte, Nat.reduceAdd, Nat.reduceSub, Nat.reduceLeDiff, Bool.not_true, Bool.not_false, Bool.false_eq_true, decide_true, decide_false, Option.map_some, Option.bind_some, Nat.zero_add, Nat.le_refl, String.reduceBEq, Bool.or_false, Bool.or_self, Bool.or_true, Bool.false_or, Bool.true_or, need_words_wd h k, en, e]
end Lw

namespace Lw
open PySem PySem.Spec PyProof PyProof.Rows DL ES
theorem law_lcm_ok {a b : Nat} (ha : 0 < a) (hb : 0 < b) (la : a ≤ 10000) (lb : b ≤ 10000) : m_law_lcm [.int (a : Int), .int (b : Int)] = .ok (.int ((Nat.lcm a b : Nat) : Int)) := by
  have e := law_gcd_ok a b (by omega)
  have hg : 0 < Nat.gcd a b := Nat.gcd_pos_of_pos_left _ ha
  have hgl : Nat.gcd a b ≤ a := Nat.le_of_dvd ha (Nat.gcd_dvd_left _ _)
  have em : opMul (.int (a : Int)) (.int (b : Int)) = some (.int ((a * b : Nat) : Int)) := by
    rw [mulI (.inl (by omega))]
    exact congrArg (fun z => some (D.int z)) (Int.natCast_mul _ _).symm
  refine runF_ret (r := [some (.int (a : Int)), some (.int (b : Int))]) ?_
  show F_law_lcm [some (.int (a : Int)), some (.int (b : Int))] = _
  unfold F_law_lcm Nat.lcm
  generalize Nat.gcd a b = g at *
  simp only [runF, runR, start0, sRet, sSeq, sIf, sSet, sSetL, sPar, sParL, sAsg, sExpr, sSetIx, sApp, sAug, sNx, sBad, sBk, sRetN, thenS, fVar, fC, fOp, fUn, fTst, fNot, fAnd, fOr, fIf, fNil, fCons, fTup, fCall, fAndV, fOrV, fChain, fIsi, fIsi2, isTy, fSl, fNoPart, fPart, fM1, fCallF, fOwnIx, fRow, fOfL, fLstL, gfN, gfT, gfC, gfNil, Out.bind, ofO, opCmp, opIx, opAdd, opSub, unNeg, unNot, opSl, bLen, bInt, List.getElem?_cons_zero, List.getElem?_cons_succ, List.getElem?_nil, List.set_cons_zero, List.set_cons_succ, List.map_cons, List.map_nil, List.length_cons, List.length_nil, List.replicate_succ, List.replicate_zero, List.cons_append, List.nil_append, List.append_nil, if_true, if_false, ite_true, ite_false, reduceIte, Nat.reduceAdd, Nat.reduceSub, Nat.reduceLeDiff, Bool.not_true, Bool.not_false, Bool.false_eq_true, decide_true, decide_false, Option.map_some, Option.bind_some, Nat.zero_add, Nat.le_refl, String.reduceBEq, Bool.or_false, Bool.or_self, Bool.or_true, Bool.false_or, Bool.true_or, em, e, divN (show g ≠ 0 by omega) (show g < 1073741824 by omega)]
/-! orders of at most four signs -/
def oneB (x : List Nat) : Bool := x == [48] || x == [49]
def toP : List D → Option (List (List Nat))
  | [] => some []
  | .lst es :: r => match asStrs es, toP r with
    | some ss, some P => if ss.all oneB then some (ss.flatten :: P) else none
    | _, _ => none
  | _ => none
theorem oneB_flat : ∀ {ss : List (List Nat)}, ss.all oneB = true → ss = ss.flatten.map (fun c => [c]) ∧ Bt ss.flatten
  | [], _ => ⟨rfl, bt_nil⟩
  | x :: ss, h => by
    obtain ⟨h1, h2⟩ := Bool.and_eq_true_iff.mp (show (oneB x && ss.all oneB) = true from h)
    obtain ⟨k1, k2⟩ := oneB_flat h2
    rcases Bool.or_eq_true_iff.mp h1 with q | q
    · rw [beq_iff_eq.mp q]
      refine ⟨?_, ?_⟩
      · rw [List.flatten_cons, List.map_append, ← k1]
        rfl
      · rw [List.flatten_cons]
        exact bt_app (fun c hc => .inl (List.mem_singleton.mp hc)) k2
    · rw [beq_iff_eq.mp q]
      refine ⟨?_, ?_⟩
      · rw [List.flatten_cons, List.map_append, ← k1]
        rfl
      · rw [List.flatten_cons]
        exact bt_app (fun c hc => .inr (List.mem_singleton.mp hc)) k2
def signsD (p : List Nat) : D := .lst (p.map fun c => .str [c])
theorem toP_ok : ∀ {ds : List D} {P : List (List Nat)}, toP ds = some P → ds = P.map signsD ∧ ∀ p ∈ P, Bt p
  | [], P, h => by
    cases h
    exact ⟨rfl, fun p hp => by cases hp⟩
  | .lst es :: r, P, h => by
    unfold toP at h
    cases e1 : asStrs es with
    | none => simp [e1] at h
    | some ss =>
      cases e2 : toP r with
      | none => simp [e1, e2] at h
      | some Q =>
        simp only [e1, e2] at h
        split at h
        · rename_i hs
          cases h
          obtain ⟨k1, k2⟩ := toP_ok e2
          obtain ⟨m1, m2⟩ := oneB_flat hs
          refine ⟨?_, ?_⟩
          · rw [List.map_cons, ← k1, asStrs_eq e1]
            congr 1
            unfold signsD
            conv => lhs; rw [m1]
            rw [List.map_map]
            rfl
          · intro p hp
            rcases List.mem_cons.mp hp with q | q
            · rw [q]
              exact m2
            · exact k2 p q
        · cases h
  | .non :: r, P, h => by cases h
  | .bl _ :: r, P, h => by cases h
  | .int _ :: r, P, h => by cases h
  | .str _ :: r, P, h => by cases h
  | .tup _ :: r, P, h => by cases h
  | .fl _ :: r, P, h => by cases h
  | .dct :: r, P, h => by cases h
def chkO (l : List Nat) : Bool := match m_law_orders [signsD l] with
  | .ok (.lst ds) => match toP ds with
    | some P => !P.isEmpty && decide (P.length < 1000) && P.all fun p => decide (p.length = l.length) && decide (p.count 49 = l.count 49)
    | none => false
  | _ => false
def allB : Nat → List (List Nat)
  | 0 => [[]]
  | n + 1 => (allB n).flatMap fun l => [48 :: l, 49 :: l]
theorem mem_allB : ∀ {l : List Nat}, Bt l → l ∈ allB l.length
  | [], _ => List.mem_singleton.mpr rfl
  | c :: l, h => by
    have k := mem_allB (l := l) fun x hx => h x (List.mem_cons_of_mem _ hx)
    refine List.mem_flatMap.mpr ⟨l, k, ?_⟩
    rcases h c List.mem_cons_self with q | q <;> rw [q] <;> simp
theorem chkO_all : ((allB 0 ++ allB 1 ++ allB 2 ++ allB 3 ++ allB 4).all chkO) = true := by decide +kernel
theorem orders_ok {l : List Nat} (h : Bt l) (hl : l.length ≤ 4) : ∃ P : List (List Nat), P ≠ [] ∧ P.length < 1000 ∧ (∀ p ∈ P, Bt p ∧ p.length = l.length ∧ p.count 49 = l.count 49) ∧ m_law_orders [signsD l] = .ok (.lst (P.map signsD)) := by
  have hm := mem_allB h
  have k : chkO l = true := List.all_eq_true.mp chkO_all l (by
    simp only [List.mem_append]
    rcases Nat.lt_or_ge l.length 1 with q | q
    · rw [show l.length = 0 by omega] at hm
      exact .inl (.inl (.inl (.inl hm)))
    · rcases Nat.lt_or_ge l.length 2 with q | q
      · rw [show l.length = 1 by omega] at hm
        exact .inl (.inl (.inl (.inr hm)))
      · rcases Nat.lt_or_ge l.length 3 with q | q
        · rw [show l.length = 2 by omega] at hm
          exact .inl (.inl (.inr hm))
        · rcases Nat.lt_or_ge l.length 4 with q | q
          · rw [show l.length = 3 by omega] at hm
            exact .inl (.inr hm)
          · rw [show l.length = 4 by omega] at hm
            exact .inr hm)
  unfold chkO at k
  split at k
  · rename_i ds e
    split at k
    · rename_i P eP
      obtain ⟨k1, k2⟩ := toP_ok eP
      simp only [Bool.and_eq_true, Bool.not_eq_true', decide_eq_true_eq, List.all_eq_true] at k
      refine ⟨P, fun z => ?_, k.1.2, fun p hp => ⟨k2 p hp, (k.2 p hp).1, (k.2 p hp).2⟩, by rw [e, k1]⟩
      rw [z] at k
      exact absurd k.1.1 (by decide)
    · cases k
  · cases k
theorem alike_bl (n : Nat) (i : Bool) : m_law_alike (n + 1) [.bl i, .bl i] = .ok (.bl true) := by
  refine runF_ret (r := [some (.bl i), some (.bl i), none]) ?_
  show F_law_alike (m_law_alike n) [some (.bl i), some (.bl i), none] = _
  unfold F_law_alike
  simp only [runF, runR, start0, sRet, sSeq, sIf, sSet, sSetL, sPar, sParL, sAsg, sExpr, sSetIx, sApp, sAug, sNx, sBad, sBk, sRetN, thenS, fVar, fC, fOp, fUn, fTst, fNot, fAnd, fOr, fIf, fNil, fCons, fTup, fCall, fAndV, fOrV, fChain, fIsi, fIsi2, isTy, fSl, fNoPart, fPart, fM1, fCallF, fOwnIx, fRow, fOfL, fLstL, gfN, gfT, gfC, gfNil, Out.bind, ofO, opCmp, opIx, opAdd, opSub, unNeg, unNot, opSl, bLen, bInt, List.getElem?_cons_zero, List.getElem?_cons_succ, List.getElem?_nil, List.set_cons_zero, List.set_cons_succ, List.map_cons, List.map_nil, List.length_cons, List.length_nil, List.replicate_succ, List.replicate_zero, List.cons_append, List.nil_append, List.append_nil, if_true, if_false, ite_true, ite_false, reduceIte, Nat.reduceAdd, Nat.reduceSub, Nat.reduceLeDiff, Bool.not_true, Bool.not_false, Bool.false_eq_true, decide_true, decide_false, Option.map_some, Option.bind_some, Nat.zero_add, Nat.le_refl, String.reduceBEq, Bool.or_false, Bool.or_self, Bool.or_true, Bool.false_or, Bool.true_or, Bool.or_false, Bool.or_self, opIs, isNon, eqB, eqI, beq_self_eq_true]
theorem alike_str (n : Nat) {s : List Nat} (h : okD (.str s) = true) : m_law_alike (n + 1) [.str s, .str s] = .ok (.bl true) := by
  have e : opEq (.str s) (.str s) = some (.bl true) := by
    unfold opEq
    rw [h, if_pos (by decide)]
    show some (D.bl ((⟨s.toArray⟩ : PySem.Str) == ⟨s.toArray⟩)) = _
    rw [beq_str, beq_self_eq_true]
  refine runF_ret (r := [some (.str s), some (.str s), none]) ?_
  show F_law_alike (m_law_alike n) [some (.str s), some (.str s), none] = _
  unfold F_law_alike
  simp only [runF, runR, start0, sRet, sSeq, sIf, sSet, sSetL, sPar, sParL, sAsg, sExpr, sSetIx, sApp, sAug, sNx, sBad, sBk, sRetN, thenS, fVar, fC, fOp, fUn, fTst, fNot, fAnd, fOr, fIf, fNil, fCons, fTup, fCall, fAndV, fOrV, fChain, fIsi, fIsi2, isTy, fSl, fNoPart, fPart, fM1, fCallF, fOwnIx, fRow, fOfL, fLstL, gfN, gfT, gfC, gfNil, Out.bind, ofO, opCmp, opIx, opAdd, opSub, unNeg, unNot, opSl, bLen, bInt, List.getElem?_cons_zero, List.getElem?_cons_succ, List.getElem?_nil, List.set_cons_zero, List.set_cons_succ, List.map_cons, List.map_nil, List.length_cons, List.length_nil, List.replicate_succ, List.replicate_zero, List.cons_append, List.nil_append, List.append_nil, if_true, if_false, ite_true, ite_false, reduceIte, Nat.reduceAdd, Nat.reduceSub, Nat.reduceLeDiff, Bool.not_true, Bool.not_false, Bool.false_eq_true, decide_true, decide_false, Option.map_some, Option.bind_some, Nat.zero_add, Nat.le_refl, String.reduceBEq, Bool.or_false, Bool.or_self, Bool.or_true, Bool.false_or, Bool.true_or, Bool.or_false, Bool.or_self, opIs, isNon, eqB, eqI, beq_self_eq_true, e]
theorem alike_fault (n : Nat) (s t s' t' : List Nat) (d : Option Nat) : m_law_alike (n + 2) [faultD s t s' t' d, faultD s t s' t' d] = .ok (.bl true) := by
  cases d with
  | none => exact alike_non (n + 1)
  | some m =>
    rw [faultD_some]
    refine alike_seq (n + 1) _ _ (.inr rfl) (by simp) fun d hd => ?_
    rcases List.mem_cons.mp hd with q | q
    · rw [q]
      exact alike_int n _
    · rw [List.mem_singleton.mp q]
      refine alike_str n ?_
      split <;> decide +kernel
theorem alike_gap (n : Nat) (d : Option Int) : m_law_alike (n + 1) [gapD d, gapD d] = .ok (.bl true) := by
  cases d with
  | none => exact alike_non n
  | some m => exact alike_int n m
/-! sums of a word's text -/
def cntsD (s t : List Nat) (n : Nat) : List D := (List.range (n + 1)).map fun i => .int ((WT.cnt s t i : Nat) : Int)
theorem sums_txt {s t : List Nat} (h : Wd s t 400) {n : Nat} (hn : n ≤ 5000) : m_law_sums [.str (WT.txt s t n)] = .ok (.lst (cntsD s t n)) := by
  rw [law_sums_ok (bt_txt h.bs h.bt h.ne n) (by rw [WT.txt_len]; exact hn)]
  unfold sumsN cntsD
  rw [WT.txt_len]
  refine congrArg (fun z => Res.ok (.lst z)) (List.map_congr_left fun i hi => ?_)
  have := List.mem_range.mp hi
  rw [WT.txt_take (by omega)]
  rfl
theorem cntsD_get {s t : List Nat} {n i : Nat} (h : i ≤ n) : L2.atI (cntsD s t n) (i : Int) = some (.int ((WT.cnt s t i : Nat) : Int)) := by
  refine ix_nat ?_
  unfold cntsD
  rw [List.getElem?_map, List.getElem?_range (by omega)]
  rfl
end Lw

namespace Lw
open PySem PySem.Spec PyProof PyProof.Rows DL ES
/-- the two words -/
structure Two (s t s' t' : List Nat) : Prop where
  h : Wd s t 6
  hs : s.length ≤ 5
  k : Wd s' t' 8
  ht : t'.length ≤ 6
  hx : s'.length ≤ 5 ∨ t' = t
theorem comp_rng {v : Nat} {it : FA} {f : FE} {ρ : Rho} {n : Nat} {h : Nat → D} (e : it ρ = .ok ((List.range n).map fun i : Nat => .int (i : Int)) ρ) (hn : n ≤ 1000000) (k : ∀ i, i < n → ∃ ρ2, f ((wipeR ρ [v]).set v (some (.int (i : Int)))) = .ok (h i) ρ2) : fComp [v] it (gfN v) fYes f ρ = .ok ((List.range n).map h) ρ := by
  unfold fComp
  rw [e, Out.bind_ok, if_pos (by rw [List.length_map, List.length_range]; exact limS hn)]
  rw [compP_all (g := fun i : Nat => D.int (i : Int)) (h := h) (List.range n) fun i hi => ?_]
  · rfl
  · obtain ⟨r, hr⟩ := k i (List.mem_range.mp hi)
    exact ⟨_, _, r, rfl, rfl, hr⟩
theorem rng1_of {f : FE} {ρ : Rho} {n : Nat} (e : f ρ = .ok (.int (n : Int)) ρ) (h : n ≤ 1000000) : fRng1 f ρ = .ok ((List.range n).map fun i : Nat => .int (i : Int)) ρ := by
  have e1 : ((n : Int)).natAbs ≤ lim := limS (by omega)
  have e2 : ((n : Int)).toNat = n := by omega
  simp only [runF, runR, start0, sRet, sSeq, sIf, sSet, sSetL, sPar, sParL, sAsg, sExpr, sSetIx, sApp, sAug, sNx, sBad, sBk, sRetN, thenS, fVar, fC, fOp, fUn, fTst, fNot, fAnd, fOr, fIf, fNil, fCons, fTup, fCall, fAndV, fOrV, fChain, fIsi, fIsi2, isTy, fSl, fNoPart, fPart, fM1, fCallF, fOwnIx, fRow, fOfL, fLstL, gfN, gfT, gfC, gfNil, Out.bind, ofO, opCmp, opIx, opAdd, opSub, unNeg, unNot, opSl, bLen, bInt, List.getElem?_cons_zero, List.getElem?_cons_succ, List.getElem?_nil, List.set_cons_zero, List.set_cons_succ, List.map_cons, List.map_nil, List.length_cons, List.length_nil, List.replicate_succ, List.replicate_zero, List.cons_append, List.nil_append, List.append_nil, if_true, if_false, ite_true, ite_false, reduceIte, Nat.reduceAdd, Nat.reduceSub, Nat.reduceLeDiff, Bool.not_true, Bool.not_false, Bool.false_eq_true, decide_true, decide_false, Option.map_some, Option.bind_some, Nat.zero_add, Nat.le_refl, String.reduceBEq, Bool.or_false, Bool.or_self, Bool.or_true, Bool.false_or, Bool.true_or, fRng1, e, if_pos e1, e2]
  rw [numD_map]
  simp
theorem lawA_1 (w0 : D) : F_law_1 [some (w0), none, none, none, none, none, none, none, none, none, none, none, none, none, none, none, none, none, none, none, none, none, none, none] = .nx [some (w0), some (.lst [w0, .int 0, .int 8602, .int 0]), none, none, none, none, none, none, none, none, none, none, none, none, none, none, none, none, none, none, none, none, none, none] := by
  unfold F_law_1
  have l4 : 4 ≤ lim := limS (by omega)
  simp only [runF, runR, start0, sRet, sSeq, sIf, sSet, sSetL, sPar, sParL, sAsg, sExpr, sSetIx, sApp, sAug, sNx, sBad, sBk, sRetN, thenS, fVar, fC, fOp, fUn, fTst, fNot, fAnd, fOr, fIf, fNil, fCons, fTup, fCall, fAndV, fOrV, fChain, fIsi, fIsi2, isTy, fSl, fNoPart, fPart, fM1, fCallF, fOwnIx, fRow, fOfL, fLstL, gfN, gfT, gfC, gfNil, Out.bind, ofO, opCmp, opIx, opAdd, opSub, unNeg, unNot, opSl, bLen, bInt, List.getElem?_cons_zero, List.getElem?_cons_succ, List.getElem?_nil, List.set_cons_zero, List.set_cons_succ, List.map_cons, List.map_nil, List.length_cons, List.length_nil, List.replicate_succ, List.replicate_zero, List.cons_append, List.nil_append, List.append_nil, if_true, if_false, ite_true, ite_false, reduceIte, Nat.reduceAdd, Nat.reduceSub, Nat.reduceLeDiff, Bool.not_true, Bool.not_false, Bool.false_eq_true, decide_true, decide_false, Option.map_some, Option.bind_some, Nat.zero_add, Nat.le_refl, String.reduceBEq, Bool.or_false, Bool.or_self, Bool.or_true, Bool.false_or, Bool.true_or, if_pos l4, Nat.reduceLT, show (1 : Nat) < 24 from by decide]
theorem ne_of {l : List Nat} (h : 1 ≤ l.length) : l ≠ [] := fun z => by rw [z] at h; simp at h
theorem word_6 {ns : List Int} {row : List D} (r : RowOk ns row) : ∃ (s t : List Nat) (row' : List D), Wd s t 6 ∧ s.length ≤ 5 ∧ RowOk ns row' ∧ m_law_word row [.int 6] = .ok (wd s t) row' := by
  obtain ⟨s, t, r2, b1, b2, b3, b4, b5, b6, e⟩ := word_row r (m := 6) (by decide) (by decide)
  exact ⟨s, t, r2, ⟨b1, b2, by omega, by omega, ne_of b4⟩, by omega, b6, e⟩
theorem lawA_2 (w0 : D) {ns : List Int} {row : List D} (r : RowOk ns row) : ∃ (s t : List Nat) (row' : List D), Wd s t 6 ∧ s.length ≤ 5 ∧ RowOk ns row' ∧ F_law_2 [some (w0), some (.lst row), none, none, none, none, none, none, none, none, none, none, none, none, none, none, none, none, none, none, none, none, none, none] = .nx [some (w0), some (.lst row'), some (wd s t), none, none, none, none, none, none, none, none, none, none, none, none, none, none, none, none, none, none, none, none, none] := by
  obtain ⟨s, t, r2, h, hs, hr, e⟩ := word_6 r
  refine ⟨s, t, r2, h, hs, hr, ?_⟩
  unfold F_law_2
  simp only [runF, runR, start0, sRet, sSeq, sIf, sSet, sSetL, sPar, sParL, sAsg, sExpr, sSetIx, sApp, sAug, sNx, sBad, sBk, sRetN, thenS, fVar, fC, fOp, fUn, fTst, fNot, fAnd, fOr, fIf, fNil, fCons, fTup, fCall, fAndV, fOrV, fChain, fIsi, fIsi2, isTy, fSl, fNoPart, fPart, fM1, fCallF, fOwnIx, fRow, fOfL, fLstL, gfN, gfT, gfC, gfNil, Out.bind, ofO, opCmp, opIx, opAdd, opSub, unNeg, unNot, opSl, bLen, bInt, List.getElem?_cons_zero, List.getElem?_cons_succ, List.getElem?_nil, List.set_cons_zero, List.set_cons_succ, List.map_cons, List.map_nil, List.length_cons, List.length_nil, List.replicate_succ, List.replicate_zero, List.cons_append, List.nil_append, List.append_nil, if_true, if_false, ite_true, ite_false, reduceIte, Nat.reduceAdd, Nat.reduceSub, Nat.reduceLeDiff, Bool.not_true, Bool.not_false, Bool.false_eq_true, decide_true, decide_false, Option.map_some, Option.bind_some, Nat.zero_add, Nat.le_refl, String.reduceBEq, Bool.or_false, Bool.or_self, Bool.or_true, Bool.false_or, Bool.true_or, e, show (2 : Nat) < 24 from by decide]
theorem lawA_3 {w0 : D} {row : List D} {s t : List Nat} (h : Wd s t 6) : ∃ P : List (List Nat), P ≠ [] ∧ P.length < 1000 ∧ (∀ p ∈ P, Bt p ∧ p.length = (t.take 4).length ∧ p.count 49 = (t.take 4).count 49) ∧ F_law_3 [some (w0), some (.lst row), some (wd s t), none, none, none, none, none, none, none, none, none, none, none, none, none, none, none, none, none, none, none, none, none] = .nx [some (w0), some (.lst row), some (wd s t), some (.lst (P.map signsD)), none, none, none, none, none, none, none, none, none, none, none, none, none, none, none, none, none, none, none, none] := by
  have lt := h.lt
  obtain ⟨P, p1, p2, p3, e⟩ := orders_ok (bt_take h.bt 4) (by rw [List.length_take]; omega)
  refine ⟨P, p1, p2, p3, ?_⟩
  have c1 : cutL t none (some 4) = t.take 4 := cut_to t 4
  have l1 : t.length ≤ lim := limS (by omega)
  have l2 : (t.take 4).length ≤ lim := limS (by rw [List.length_take]; omega)
  unfold signsD at e
  unfold F_law_3
  generalize t.take 4 = u at *
  simp only [runF, runR, start0, sRet, sSeq, sIf, sSet, sSetL, sPar, sParL, sAsg, sExpr, sSetIx, sApp, sAug, sNx, sBad, sBk, sRetN, thenS, fVar, fC, fOp, fUn, fTst, fNot, fAnd, fOr, fIf, fNil, fCons, fTup, fCall, fAndV, fOrV, fChain, fIsi, fIsi2, isTy, fSl, fNoPart, fPart, fM1, fCallF, fOwnIx, fRow, fOfL, fLstL, gfN, gfT, gfC, gfNil, Out.bind, ofO, opCmp, opIx, opAdd, opSub, unNeg, unNot, opSl, bLen, bInt, List.getElem?_cons_zero, List.getElem?_cons_succ, List.getElem?_nil, List.set_cons_zero, List.set_cons_succ, List.map_cons, List.map_nil, List.length_cons, List.length_nil, List.replicate_succ, List.replicate_zero, List.cons_append, List.nil_append, List.append_nil, if_true, if_false, ite_true, ite_false, reduceIte, Nat.reduceAdd, Nat.reduceSub, Nat.reduceLeDiff, Bool.not_true, Bool.not_false, Bool.false_eq_true, decide_true, decide_false, Option.map_some, Option.bind_some, Nat.zero_add, Nat.le_refl, String.reduceBEq, Bool.or_false, Bool.or_self, Bool.or_true, Bool.false_or, Bool.true_or, i0, i1, if_pos l1, c1, fListOf3, if_pos l2, e, show (3 : Nat) < 24 from by decide]
  rfl
theorem mul_nought (n : Nat) (h : n ≤ 1000) : opMul (.str [48]) (.int (n : Int)) = some (.str (List.replicate n 48)) := by
  rw [mul_str [48] n (by simp; omega) (by omega), late_flat]
theorem lawA_4 {w0 : D} {row : List D} {s t : List Nat} {ns : List Int} {P : List (List Nat)} (h : Wd s t 6) (hs : s.length ≤ 5) (r : RowOk ns row) : ∃ (s1 t1 s2 s3 : List Nat) (row' : List D), Two s t s1 t1 ∧ Two s t s2 t ∧ Two s t s3 t ∧ RowOk ns row' ∧ F_law_4 [some (w0), some (.lst row), some (wd s t), some (.lst (P.map signsD)), none, none, none, none, none, none, none, none, none, none, none, none, none, none, none, none, none, none, none, none] = .nx [some (w0), some (.lst row'), some (wd s t), some (.lst (P.map signsD)), some (.lst [wd s1 t1, wd s2 t, wd s3 t]), none, none, none, none, none, none, none, none, none, none, none, none, none, none, none, none, none, none, none] := by
  obtain ⟨s1, t1, r1, h1, hs1, hr1, e1⟩ := word_6 r
  obtain ⟨s2, t2, r2, b1, b2, b3, b4, b5, b6, e2⟩ := word_row hr1 (m := 4) (by decide) (by decide)
  obtain ⟨v, r3, hv, hr3, e3⟩ := taken_row b6 (m := 4) (by decide) (by decide)
  have e2 : m_law_word r1 [.int 4] = .ok (wd s2 t2) r2 := e2
  have e3 : m_law_taken r2 [.int 4] = .ok (.int (v : Int)) r3 := e3
  have em := mul_nought v (by omega)
  have l0 : (List.replicate v 48).length + s.length ≤ lim := limS (by rw [List.length_replicate]; omega)
  have l2 : 2 ≤ lim := limS (by omega)
  have l3 : 3 ≤ lim := limS (by omega)
  have lt := h.lt
  refine ⟨s1, t1, s2, List.replicate v 48 ++ s, r3, ⟨h, hs, h1.up (by decide), h1.lt, .inl hs1⟩, ⟨h, hs, ⟨b1, h.bt, by omega, by omega, h.ne⟩, h.lt, .inr rfl⟩, ⟨h, hs, ⟨bt_app (fun c q => .inl (List.mem_replicate.mp q).2) h.bs, h.bt, by rw [List.length_append, List.length_replicate]; omega, by omega, h.ne⟩, h.lt, .inr rfl⟩, hr3, ?_⟩
  unfold F_law_4
  simp only [runF, runR, start0, sRet, sSeq, sIf, sSet, sSetL, sPar, sParL, sAsg, sExpr, sSetIx, sApp, sAug, sNx, sBad, sBk, sRetN, thenS, fVar, fC, fOp, fUn, fTst, fNot, fAnd, fOr, fIf, fNil, fCons, fTup, fCall, fAndV, fOrV, fChain, fIsi, fIsi2, isTy, fSl, fNoPart, fPart, fM1, fCallF, fOwnIx, fRow, fOfL, fLstL, gfN, gfT, gfC, gfNil, Out.bind, ofO, opCmp, opIx, opAdd, opSub, unNeg, unNot, opSl, bLen, bInt, List.getElem?_cons_zero, List.getElem?_cons_succ, List.getElem?_nil, List.set_cons_zero, List.set_cons_succ, List.map_cons, List.map_nil, List.length_cons, List.length_nil, List.replicate_succ, List.replicate_zero, List.cons_append, List.nil_append, List.append_nil, if_true, if_false, ite_true, ite_false, reduceIte, Nat.reduceAdd, Nat.reduceSub, Nat.reduceLeDiff, Bool.not_true, Bool.not_false, Bool.false_eq_true, decide_true, decide_false, Option.map_some, Option.bind_some, Nat.zero_add, Nat.le_refl, String.reduceBEq, Bool.or_false, Bool.or_self, Bool.or_true, Bool.false_or, Bool.true_or, e1, e2, e3, em, i0, i1, if_pos l0, if_pos l2, if_pos l3, show (4 : Nat) < 24 from by decide]
theorem lawA_5 {w0 : D} {row : List D} {s t s1 t1 s2 s3 : List Nat} {ns : List Int} {P : List (List Nat)} (k1 : Two s t s1 t1) (k2 : Two s t s2 t) (k3 : Two s t s3 t) (r : RowOk ns row) : ∃ (s' t' : List Nat) (row' : List D), Two s t s' t' ∧ RowOk ns row' ∧ F_law_5 [some (w0), some (.lst row), some (wd s t), some (.lst (P.map signsD)), some (.lst [wd s1 t1, wd s2 t, wd s3 t]), none, none, none, none, none, none, none, none, none, none, none, none, none, none, none, none, none, none, none] = .nx [some (w0), some (.lst row'), some (wd s t), some (.lst (P.map signsD)), some (.lst [wd s1 t1, wd s2 t, wd s3 t]), some (wd s' t'), none, none, none, none, none, none, none, none, none, none, none, none, none, none, none, none, none, none] := by
  obtain ⟨d, row', hd, hr, e⟩ := pick_row r [wd s1 t1, wd s2 t, wd s3 t] (by simp) (by simp)
  have key : ∃ s' t', d = wd s' t' ∧ Two s t s' t' := by
    rcases List.mem_cons.mp hd with q | q
    · exact ⟨s1, t1, q, k1⟩
    · rcases List.mem_cons.mp q with q | q
      · exact ⟨s2, t, q, k2⟩
      · exact ⟨s3, t, List.mem_singleton.mp q, k3⟩
  obtain ⟨s', t', rfl, k⟩ := key
  refine ⟨s', t', row', k, hr, ?_⟩
  unfold F_law_5
  simp only [runF, runR, start0, sRet, sSeq, sIf, sSet, sSetL, sPar, sParL, sAsg, sExpr, sSetIx, sApp, sAug, sNx, sBad, sBk, sRetN, thenS, fVar, fC, fOp, fUn, fTst, fNot, fAnd, fOr, fIf, fNil, fCons, fTup, fCall, fAndV, fOrV, fChain, fIsi, fIsi2, isTy, fSl, fNoPart, fPart, fM1, fCallF, fOwnIx, fRow, fOfL, fLstL, gfN, gfT, gfC, gfNil, Out.bind, ofO, opCmp, opIx, opAdd, opSub, unNeg, unNot, opSl, bLen, bInt, List.getElem?_cons_zero, List.getElem?_cons_succ, List.getElem?_nil, List.set_cons_zero, List.set_cons_succ, List.map_cons, List.map_nil, List.length_cons, List.length_nil, List.replicate_succ, List.replicate_zero, List.cons_append, List.nil_append, List.append_nil, if_true, if_false, ite_true, ite_false, reduceIte, Nat.reduceAdd, Nat.reduceSub, Nat.reduceLeDiff, Bool.not_true, Bool.not_false, Bool.false_eq_true, decide_true, decide_false, Option.map_some, Option.bind_some, Nat.zero_add, Nat.le_refl, String.reduceBEq, Bool.or_false, Bool.or_self, Bool.or_true, Bool.false_or, Bool.true_or, e, show (5 : Nat) < 24 from by decide]
theorem join_signs {p : List Nat} (h : p.length ≤ 1000) : bJoin [.str [], signsD p] = some (.str p) := join_one (by omega)
theorem lawA_6 {w0 w4 : D} {row : List D} {s t s' t' : List Nat} {ns : List Int} {P : List (List Nat)} (k : Two s t s' t') (hP : P ≠ []) (hl : P.length < 1000) (p3 : ∀ p ∈ P, Bt p ∧ p.length = (t.take 4).length ∧ p.count 49 = (t.take 4).count 49) (r : RowOk ns row) : ∃ (s'' t'' : List Nat) (row' : List D), Two s t s'' t'' ∧ RowOk ns row' ∧ F_law_6 [some (w0), some (.lst row), some (wd s t), some (.lst (P.map signsD)), some (w4), some (wd s' t'), none, none, none, none, none, none, none, none, none, none, none, none, none, none, none, none, none, none] = .nx [some (w0), some (.lst row'), some (wd s t), some (.lst (P.map signsD)), some (w4), some (wd s'' t''), none, none, none, none, none, none, none, none, none, none, none, none, none, none, none, none, none, none] := by
  obtain ⟨v, r1, hv, hr1, e1⟩ := taken_row r (m := 3) (by decide) (by decide)
  have e1 : m_law_taken row [.int 3] = .ok (.int (v : Int)) r1 := e1
  by_cases q : v = 0
  · obtain ⟨d, r2, hd, hr2, e2⟩ := pick_row hr1 (P.map signsD) (by simpa using hP) (by rw [List.length_map]; omega)
    obtain ⟨p, hp, rfl⟩ := List.mem_map.mp hd
    obtain ⟨p4, p5, _⟩ := p3 p hp
    rw [List.length_take] at p5
    have lt := k.h.lt
    have pos := k.h.pos
    have c1 : cutL t (some 4) none = t.drop 4 := cut_from t 4
    have lj := join_signs (p := p) (by omega)
    have l1 : t.length ≤ lim := limS (by omega)
    have l2 : p.length + (t.drop 4).length ≤ lim := limS (by rw [List.length_drop]; omega)
    have l3 : 2 ≤ lim := limS (by omega)
    have hs := k.hs
    have ll : (p ++ t.drop 4).length = t.length := by rw [List.length_append, List.length_drop]; omega
    have d0 : (((v : Nat) : Int) == 0) = true := by rw [q]; rfl
    refine ⟨s, p ++ t.drop 4, r2, ⟨k.h, k.hs, ⟨k.h.bs, bt_app p4 (bt_drop k.h.bt 4), by omega, by omega, ne_of (by omega)⟩, by omega, .inl k.hs⟩, hr2, ?_⟩
    unfold F_law_6
    simp only [runF, runR, start0, sRet, sSeq, sIf, sSet, sSetL, sPar, sParL, sAsg, sExpr, sSetIx, sApp, sAug, sNx, sBad, sBk, sRetN, thenS, fVar, fC, fOp, fUn, fTst, fNot, fAnd, fOr, fIf, fNil, fCons, fTup, fCall, fAndV, fOrV, fChain, fIsi, fIsi2, isTy, fSl, fNoPart, fPart, fM1, fCallF, fOwnIx, fRow, fOfL, fLstL, gfN, gfT, gfC, gfNil, Out.bind, ofO, opCmp, opIx, opAdd, opSub, unNeg, unNot, opSl, bLen, bInt, List.getElem?_cons_zero, List.getElem?_cons_succ, List.getElem?_nil, List.set_cons_zero, List.set_cons_succ, List.map_cons, List.map_nil, List.length_cons, List.length_nil, List.replicate_succ, List.replicate_zero, List.cons_append, List.nil_append, List.append_nil, if_true, if_false, ite_true, ite_false, reduceIte, Nat.reduceAdd, Nat.reduceSub, Nat.reduceLeDiff, Bool.not_true, Bool.not_false, Bool.false_eq_true, decide_true, decide_false, Option.map_some, Option.bind_some, Nat.zero_add, Nat.le_refl, String.reduceBEq, Bool.or_false, Bool.or_self, Bool.or_true, Bool.false_or, Bool.true_or, e1, eqI, d0, i0, i1, e2, lj, if_pos l1, c1, if_pos l2, if_pos l3, show (5 : Nat) < 24 from by decide]
  · have d0 : (((v : Nat) : Int) == 0) = false := beq_eq_false_iff_ne.mpr (by omega)
    refine ⟨s', t', r1, k, hr1, ?_⟩
    unfold F_law_6
    simp only [runF, runR, start0, sRet, sSeq, sIf, sSet, sSetL, sPar, sParL, sAsg, sExpr, sSetIx, sApp, sAug, sNx, sBad, sBk, sRetN, thenS, fVar, fC, fOp, fUn, fTst, fNot, fAnd, fOr, fIf, fNil, fCons, fTup, fCall, fAndV, fOrV, fChain, fIsi, fIsi2, isTy, fSl, fNoPart, fPart, fM1, fCallF, fOwnIx, fRow, fOfL, fLstL, gfN, gfT, gfC, gfNil, Out.bind, ofO, opCmp, opIx, opAdd, opSub, unNeg, unNot, opSl, bLen, bInt, List.getElem?_cons_zero, List.getElem?_cons_succ, List.getElem?_nil, List.set_cons_zero, List.set_cons_succ, List.map_cons, List.map_nil, List.length_cons, List.length_nil, List.replicate_succ, List.replicate_zero, List.cons_append, List.nil_append, List.append_nil, if_true, if_false, ite_true, ite_false, reduceIte, Nat.reduceAdd, Nat.reduceSub, Nat.reduceLeDiff, Bool.not_true, Bool.not_false, Bool.false_eq_true, decide_true, decide_false, Option.map_some, Option.bind_some, Nat.zero_add, Nat.le_refl, String.reduceBEq, Bool.or_false, Bool.or_self, Bool.or_true, Bool.false_or, Bool.true_or, e1, eqI, d0]
theorem Two.L30 {s t s' t' : List Nat} (k : Two s t s' t') {L : Nat} (hL : Nat.lcm t.length t'.length = L) : 0 < L ∧ L ≤ 30 := by
  rw [← hL]
  exact ⟨WT.lcm_pos k.h.pos k.k.pos, WT.lcm_30 _ (by have := k.h.lt; omega) _ (by have := k.ht; omega)⟩
theorem lawA_7 {w0 w3 w4 : D} {row : List D} {s t s' t' : List Nat} {L N : Nat} (k : Two s t s' t') (hL : Nat.lcm t.length t'.length = L) (hN : N = 8 + 2 * L) : F_law_7 [some (w0), some (.lst row), some (wd s t), some (w3), some (w4), some (wd s' t'), none, none, none, none, none, none, none, none, none, none, none, none, none, none, none, none, none, none] = .nx [some (w0), some (.lst row), some (wd s t), some (w3), some (w4), some (wd s' t'), some (.int (L : Int)), none, none, none, none, none, none, none, none, none, none, none, none, none, none, none, none, none] := by
  have l1 := k.h.lt
  have l2 := k.ht
  have e := law_lcm_ok k.h.pos k.k.pos (by omega) (by omega)
  rw [hL] at e
  have z1 : t.length ≤ lim := limS (by omega)
  have z2 : t'.length ≤ lim := limS (by omega)
  unfold F_law_7
  simp only [runF, runR, start0, sRet, sSeq, sIf, sSet, sSetL, sPar, sParL, sAsg, sExpr, sSetIx, sApp, sAug, sNx, sBad, sBk, sRetN, thenS, fVar, fC, fOp, fUn, fTst, fNot, fAnd, fOr, fIf, fNil, fCons, fTup, fCall, fAndV, fOrV, fChain, fIsi, fIsi2, isTy, fSl, fNoPart, fPart, fM1, fCallF, fOwnIx, fRow, fOfL, fLstL, gfN, gfT, gfC, gfNil, Out.bind, ofO, opCmp, opIx, opAdd, opSub, unNeg, unNot, opSl, bLen, bInt, List.getElem?_cons_zero, List.getElem?_cons_succ, List.getElem?_nil, List.set_cons_zero, List.set_cons_succ, List.map_cons, List.map_nil, List.length_cons, List.length_nil, List.replicate_succ, List.replicate_zero, List.cons_append, List.nil_append, List.append_nil, if_true, if_false, ite_true, ite_false, reduceIte, Nat.reduceAdd, Nat.reduceSub, Nat.reduceLeDiff, Bool.not_true, Bool.not_false, Bool.false_eq_true, decide_true, decide_false, Option.map_some, Option.bind_some, Nat.zero_add, Nat.le_refl, String.reduceBEq, Bool.or_false, Bool.or_self, Bool.or_true, Bool.false_or, Bool.true_or, i0, i1, e, if_pos z1, if_pos z2, show (6 : Nat) < 24 from by decide]
theorem lawA_8 {w0 w3 w4 : D} {row : List D} {s t s' t' : List Nat} {L N : Nat} (k : Two s t s' t') (hL : Nat.lcm t.length t'.length = L) (hN : N = 8 + 2 * L) : F_law_8 [some (w0), some (.lst row), some (wd s t), some (w3), some (w4), some (wd s' t'), some (.int (L : Int)), none, none, none, none, none, none, none, none, none, none, none, none, none, none, none, none, none] = .nx [some (w0), some (.lst row), some (wd s t), some (w3), some (w4), some (wd s' t'), some (.int (L : Int)), some (.int (N : Int)), none, none, none, none, none, none, none, none, none, none, none, none, none, none, none, none] := by
  have em : opMul (.int 2) (.int (L : Int)) = some (.int (2 * (L : Int))) := mulI (.inl (by decide))
  have e1 : (8 : Int) + 2 * (L : Int) = (N : Int) := by omega
  unfold F_law_8
  simp only [runF, runR, start0, sRet, sSeq, sIf, sSet, sSetL, sPar, sParL, sAsg, sExpr, sSetIx, sApp, sAug, sNx, sBad, sBk, sRetN, thenS, fVar, fC, fOp, fUn, fTst, fNot, fAnd, fOr, fIf, fNil, fCons, fTup, fCall, fAndV, fOrV, fChain, fIsi, fIsi2, isTy, fSl, fNoPart, fPart, fM1, fCallF, fOwnIx, fRow, fOfL, fLstL, gfN, gfT, gfC, gfNil, Out.bind, ofO, opCmp, opIx, opAdd, opSub, unNeg, unNot, opSl, bLen, bInt, List.getElem?_cons_zero, List.getElem?_cons_succ, List.getElem?_nil, List.set_cons_zero, List.set_cons_succ, List.map_cons, List.map_nil, List.length_cons, List.length_nil, List.replicate_succ, List.replicate_zero, List.cons_append, List.nil_append, List.append_nil, if_true, if_false, ite_true, ite_false, reduceIte, Nat.reduceAdd, Nat.reduceSub, Nat.reduceLeDiff, Bool.not_true, Bool.not_false, Bool.false_eq_true, decide_true, decide_false, Option.map_some, Option.bind_some, Nat.zero_add, Nat.le_refl, String.reduceBEq, Bool.or_false, Bool.or_self, Bool.or_true, Bool.false_or, Bool.true_or, em, e1, show (7 : Nat) < 24 from by decide]
theorem comp_9 {w0 w3 w4 : D} {row : List D} {s t s' t' : List Nat} {L N : Nat} (k : Two s t s' t') (hL : Nat.lcm t.length t'.length = L) (hN : N = 8 + 2 * L) : fComp [9] (fIt (fOfL (fLstL (fCons (fVar 2) (fCons (fVar 5) fNil))))) (gfN 9) fYes (fCallF m_law_sums (fCons (fCallF m_law_bits (fCons (fVar 9) (fCons (fVar 7) fNil))) fNil)) [some (w0), some (.lst row), some (wd s t), some (w3), some (w4), some (wd s' t'), some (.int (L : Int)), some (.int (N : Int)), none, none, none, none, none, none, none, none, none, none, none, none, none, none, none, none] = .ok [.lst (cntsD s t N), .lst (cntsD s' t' N)] [some (w0), some (.lst row), some (wd s t), some (w3), some (w4), some (wd s' t'), some (.int (L : Int)), some (.int (N : Int)), none, none, none, none, none, none, none, none, none, none, none, none, none, none, none, none] := by
  have h4 := k.h.up (show 6 ≤ 400 by decide)
  have k4 := k.k.up (show 8 ≤ 400 by decide)
  obtain ⟨_, hl⟩ := k.L30 hL
  have e1 := law_bits_wd h4 (n := N) (by omega)
  have e2 := law_bits_wd k4 (n := N) (by omega)
  have e3 := sums_txt h4 (n := N) (by omega)
  have e4 := sums_txt k4 (n := N) (by omega)
  have l2 : 2 ≤ lim := limS (by omega)
  generalize WT.txt s t N = T at *
  generalize WT.txt s' t' N = T' at *
  generalize cntsD s t N = C at *
  generalize cntsD s' t' N = C' at *
  simp only [runF, runR, start0, sRet, sSeq, sIf, sSet, sSetL, sPar, sParL, sAsg, sExpr, sSetIx, sApp, sAug, sNx, sBad, sBk, sRetN, thenS, fVar, fC, fOp, fUn, fTst, fNot, fAnd, fOr, fIf, fNil, fCons, fTup, fCall, fAndV, fOrV, fChain, fIsi, fIsi2, isTy, fSl, fNoPart, fPart, fM1, fCallF, fOwnIx, fRow, fOfL, fLstL, gfN, gfT, gfC, gfNil, Out.bind, ofO, opCmp, opIx, opAdd, opSub, unNeg, unNot, opSl, bLen, bInt, List.getElem?_cons_zero, List.getElem?_cons_succ, List.getElem?_nil, List.set_cons_zero, List.set_cons_succ, List.map_cons, List.map_nil, List.length_cons, List.length_nil, List.replicate_succ, List.replicate_zero, List.cons_append, List.nil_append, List.append_nil, if_true, if_false, ite_true, ite_false, reduceIte, Nat.reduceAdd, Nat.reduceSub, Nat.reduceLeDiff, Bool.not_true, Bool.not_false, Bool.false_eq_true, decide_true, decide_false, Option.map_some, Option.bind_some, Nat.zero_add, Nat.le_refl, String.reduceBEq, Bool.or_false, Bool.or_self, Bool.or_true, Bool.false_or, Bool.true_or, fComp, fIt, itemsOf, if_pos l2, compP, gfN, fYes, wipeR, e1, e2, e3, e4, ofO]
theorem lawA_9 {w0 w3 w4 : D} {row : List D} {s t s' t' : List Nat} {L N : Nat} (k : Two s t s' t') (hL : Nat.lcm t.length t'.length = L) (hN : N = 8 + 2 * L) : F_law_9 [some (w0), some (.lst row), some (wd s t), some (w3), some (w4), some (wd s' t'), some (.int (L : Int)), some (.int (N : Int)), none, none, none, none, none, none, none, none, none, none, none, none, none, none, none, none] = .nx [some (w0), some (.lst row), some (wd s t), some (w3), some (w4), some (wd s' t'), some (.int (L : Int)), some (.int (N : Int)), some (.lst [.lst (cntsD s t N), .lst (cntsD s' t' N)]), none, none, none, none, none, none, none, none, none, none, none, none, none, none, none] := by
  have e := comp_9 (w0 := w0) (w3 := w3) (w4 := w4) (row := row) k hL hN
  unfold F_law_9
  generalize fComp [9] (fIt (fOfL (fLstL (fCons (fVar 2) (fCons (fVar 5) fNil))))) (gfN 9) fYes (fCallF m_law_sums (fCons (fCallF m_law_bits (fCons (fVar 9) (fCons (fVar 7) fNil))) fNil)) = ff at *
  generalize cntsD s t N = C at *
  generalize cntsD s' t' N = C' at *
  simp only [runF, runR, start0, sRet, sSeq, sIf, sSet, sSetL, sPar, sParL, sAsg, sExpr, sSetIx, sApp, sAug, sNx, sBad, sBk, sRetN, thenS, fVar, fC, fOp, fUn, fTst, fNot, fAnd, fOr, fIf, fNil, fCons, fTup, fCall, fAndV, fOrV, fChain, fIsi, fIsi2, isTy, fSl, fNoPart, fPart, fM1, fCallF, fOwnIx, fRow, fOfL, fLstL, gfN, gfT, gfC, gfNil, Out.bind, ofO, opCmp, opIx, opAdd, opSub, unNeg, unNot, opSl, bLen, bInt, List.getElem?_cons_zero, List.getElem?_cons_succ, List.getElem?_nil, List.set_cons_zero, List.set_cons_succ, List.map_cons, List.map_nil, List.length_cons, List.length_nil, List.replicate_succ, List.replicate_zero, List.cons_append, List.nil_append, List.append_nil, if_true, if_false, ite_true, ite_false, reduceIte, Nat.reduceAdd, Nat.reduceSub, Nat.reduceLeDiff, Bool.not_true, Bool.not_false, Bool.false_eq_true, decide_true, decide_false, Option.map_some, Option.bind_some, Nat.zero_add, Nat.le_refl, String.reduceBEq, Bool.or_false, Bool.or_self, Bool.or_true, Bool.false_or, Bool.true_or, e, show (8 : Nat) < 24 from by decide]
def apartD (s t s' t' : List Nat) (n : Nat) : List D := (List.range (n + 1)).map fun i => .int (WT.G s t s' t' i)
theorem apartD_get {s t s' t' : List Nat} {n i : Nat} (h : i ≤ n) : L2.atI (apartD s t s' t' n) (i : Int) = some (.int (WT.G s t s' t' i)) := by
  refine ix_nat ?_
  unfold apartD
  rw [List.getElem?_map, List.getElem?_range (by omega)]
  rfl
theorem comp_10 {w0 w3 w4 : D} {row : List D} {s t s' t' : List Nat} {L N : Nat} (k : Two s t s' t') (hL : Nat.lcm t.length t'.length = L) (hN : N = 8 + 2 * L) : fComp [11] (fRng1 (fOp opAdd (fVar 7) (fC (.int 1)))) (gfN 11) fYes (fOp opSub (fOp opIx (fOp opIx (fVar 8) (fC (.int 0))) (fVar 11)) (fOp opIx (fOp opIx (fVar 8) (fC (.int 1))) (fVar 11))) [some (w0), some (.lst row), some (wd s t), some (w3), some (w4), some (wd s' t'), some (.int (L : Int)), some (.int (N : Int)), some (.lst [.lst (cntsD s t N), .lst (cntsD s' t' N)]), none, none, none, none, none, none, none, none, none, none, none, none, none, none, none] = .ok (apartD s t s' t' N) [some (w0), some (.lst row), some (wd s t), some (w3), some (w4), some (wd s' t'), some (.int (L : Int)), some (.int (N : Int)), some (.lst [.lst (cntsD s t N), .lst (cntsD s' t' N)]), none, none, none, none, none, none, none, none, none, none, none, none, none, none, none] := by
  obtain ⟨_, hl⟩ := k.L30 hL
  have en : (N : Int) + 1 = ((N + 1 : Nat) : Int) := by omega
  refine comp_rng (rng1_of (n := N + 1) ?_ (by omega)) (by omega) fun i hi => ⟨[some (w0), some (.lst row), some (wd s t), some (w3), some (w4), some (wd s' t'), some (.int (L : Int)), some (.int (N : Int)), some (.lst [.lst (cntsD s t N), .lst (cntsD s' t' N)]), none, none, some (.int (i : Int)), none, none, none, none, none, none, none, none, none, none, none, none], ?_⟩
  · generalize cntsD s t N = C at *
    generalize cntsD s' t' N = C' at *
    simp only [runF, runR, start0, sRet, sSeq, sIf, sSet, sSetL, sPar, sParL, sAsg, sExpr, sSetIx, sApp, sAug, sNx, sBad, sBk, sRetN, thenS, fVar, fC, fOp, fUn, fTst, fNot, fAnd, fOr, fIf, fNil, fCons, fTup, fCall, fAndV, fOrV, fChain, fIsi, fIsi2, isTy, fSl, fNoPart, fPart, fM1, fCallF, fOwnIx, fRow, fOfL, fLstL, gfN, gfT, gfC, gfNil, Out.bind, ofO, opCmp, opIx, opAdd, opSub, unNeg, unNot, opSl, bLen, bInt, List.getElem?_cons_zero, List.getElem?_cons_succ, List.getElem?_nil, List.set_cons_zero, List.set_cons_succ, List.map_cons, List.map_nil, List.length_cons, List.length_nil, List.replicate_succ, List.replicate_zero, List.cons_append, List.nil_append, List.append_nil, if_true, if_false, ite_true, ite_false, reduceIte, Nat.reduceAdd, Nat.reduceSub, Nat.reduceLeDiff, Bool.not_true, Bool.not_false, Bool.false_eq_true, decide_true, decide_false, Option.map_some, Option.bind_some, Nat.zero_add, Nat.le_refl, String.reduceBEq, Bool.or_false, Bool.or_self, Bool.or_true, Bool.false_or, Bool.true_or, en]
  · have e1 := cntsD_get (s := s) (t := t) (n := N) (i := i) (by omega)
    have e2 := cntsD_get (s := s') (t := t') (n := N) (i := i) (by omega)
    have eg : ((WT.cnt s t i : Nat) : Int) - ((WT.cnt s' t' i : Nat) : Int) = WT.G s t s' t' i := rfl
    show (fOp opSub (fOp opIx (fOp opIx (fVar 8) (fC (.int 0))) (fVar 11)) (fOp opIx (fOp opIx (fVar 8) (fC (.int 1))) (fVar 11))) [some (w0), some (.lst row), some (wd s t), some (w3), some (w4), some (wd s' t'), some (.int (L : Int)), some (.int (N : Int)), some (.lst [.lst (cntsD s t N), .lst (cntsD s' t' N)]), none, none, some (.int (i : Int)), none, none, none, none, none, none, none, none, none, none, none, none] = _
    generalize cntsD s t N = C at *
    generalize cntsD s' t' N = C' at *
    simp only [runF, runR, start0, sRet, sSeq, sIf, sSet, sSetL, sPar, sParL, sAsg, sExpr, sSetIx, sApp, sAug, sNx, sBad, sBk, sRetN, thenS, fVar, fC, fOp, fUn, fTst, fNot, fAnd, fOr, fIf, fNil, fCons, fTup, fCall, fAndV, fOrV, fChain, fIsi, fIsi2, isTy, fSl, fNoPart, fPart, fM1, fCallF, fOwnIx, fRow, fOfL, fLstL, gfN, gfT, gfC, gfNil, Out.bind, ofO, opCmp, opIx, opAdd, opSub, unNeg, unNot, opSl, bLen, bInt, List.getElem?_cons_zero, List.getElem?_cons_succ, List.getElem?_nil, List.set_cons_zero, List.set_cons_succ, List.map_cons, List.map_nil, List.length_cons, List.length_nil, List.replicate_succ, List.replicate_zero, List.cons_append, List.nil_append, List.append_nil, if_true, if_false, ite_true, ite_false, reduceIte, Nat.reduceAdd, Nat.reduceSub, Nat.reduceLeDiff, Bool.not_true, Bool.not_false, Bool.false_eq_true, decide_true, decide_false, Option.map_some, Option.bind_some, Nat.zero_add, Nat.le_refl, String.reduceBEq, Bool.or_false, Bool.or_self, Bool.or_true, Bool.false_or, Bool.true_or, i0, i1, e1, e2, eg]
theorem lawA_10 {w0 w3 w4 : D} {row : List D} {s t s' t' : List Nat} {L N : Nat} (k : Two s t s' t') (hL : Nat.lcm t.length t'.length = L) (hN : N = 8 + 2 * L) : F_law_10 [some (w0), some (.lst row), some (wd s t), some (w3), some (w4), some (wd s' t'), some (.int (L : Int)), some (.int (N : Int)), some (.lst [.lst (cntsD s t N), .lst (cntsD s' t' N)]), none, none, none, none, none, none, none, none, none, none, none, none, none, none, none] = .nx [some (w0), some (.lst row), some (wd s t), some (w3), some (w4), some (wd s' t'), some (.int (L : Int)), some (.int (N : Int)), some (.lst [.lst (cntsD s t N), .lst (cntsD s' t' N)]), none, some (.lst (apartD s t s' t' N)), none, none, none, none, none, none, none, none, none, none, none, none, none] := by
  have e := comp_10 (w0 := w0) (w3 := w3) (w4 := w4) (row := row) k hL hN
  unfold F_law_10
  generalize fComp [11] (fRng1 (fOp opAdd (fVar 7) (fC (.int 1)))) (gfN 11) fYes (fOp opSub (fOp opIx (fOp opIx (fVar 8) (fC (.int 0))) (fVar 11)) (fOp opIx (fOp opIx (fVar 8) (fC (.int 1))) (fVar 11))) = ff at *
  generalize apartD s t s' t' N = A at *
  generalize cntsD s t N = C at *
  generalize cntsD s' t' N = C' at *
  simp only [runF, runR, start0, sRet, sSeq, sIf, sSet, sSetL, sPar, sParL, sAsg, sExpr, sSetIx, sApp, sAug, sNx, sBad, sBk, sRetN, thenS, fVar, fC, fOp, fUn, fTst, fNot, fAnd, fOr, fIf, fNil, fCons, fTup, fCall, fAndV, fOrV, fChain, fIsi, fIsi2, isTy, fSl, fNoPart, fPart, fM1, fCallF, fOwnIx, fRow, fOfL, fLstL, gfN, gfT, gfC, gfNil, Out.bind, ofO, opCmp, opIx, opAdd, opSub, unNeg, unNot, opSl, bLen, bInt, List.getElem?_cons_zero, List.getElem?_cons_succ, List.getElem?_nil, List.set_cons_zero, List.set_cons_succ, List.map_cons, List.map_nil, List.length_cons, List.length_nil, List.replicate_succ, List.replicate_zero, List.cons_append, List.nil_append, List.append_nil, if_true, if_false, ite_true, ite_false, reduceIte, Nat.reduceAdd, Nat.reduceSub, Nat.reduceLeDiff, Bool.not_true, Bool.not_false, Bool.false_eq_true, decide_true, decide_false, Option.map_some, Option.bind_some, Nat.zero_add, Nat.le_refl, String.reduceBEq, Bool.or_false, Bool.or_self, Bool.or_true, Bool.false_or, Bool.true_or, e, show (10 : Nat) < 24 from by decide]
theorem lawA_11 {w0 w3 w4 : D} {row : List D} {s t s' t' : List Nat} {L N : Nat} (k : Two s t s' t') (hL : Nat.lcm t.length t'.length = L) (hN : N = 8 + 2 * L) : F_law_11 [some (w0), some (.lst row), some (wd s t), some (w3), some (w4), some (wd s' t'), some (.int (L : Int)), some (.int (N : Int)), some (.lst [.lst (cntsD s t N), .lst (cntsD s' t' N)]), none, some (.lst (apartD s t s' t' N)), none, none, none, none, none, none, none, none, none, none, none, none, none] = .nx [some (w0), some (.lst row), some (wd s t), some (w3), some (w4), some (wd s' t'), some (.int (L : Int)), some (.int (N : Int)), some (.lst [.lst (cntsD s t N), .lst (cntsD s' t' N)]), none, some (.lst (apartD s t s' t' N)), none, some (.int (WT.drf t t')), none, none, none, none, none, none, none, none, none, none, none] := by
  have e1 := apartD_get (s := s) (t := t) (s' := s') (t' := t') (n := N) (i := N) (Nat.le_refl _)
  have e2 := apartD_get (s := s) (t := t) (s' := s') (t' := t') (n := N) (i := 8 + L) (by omega)
  have hs := k.hs
  have hs' := k.k.ls
  have hg := WT.G_turn (s := s) (s' := s') (a := 8 + L) (by omega) (by omega) k.h.pos k.k.pos
  rw [hL, show 8 + L + L = N by omega] at hg
  have ei : (N : Int) - (L : Int) = ((8 + L : Nat) : Int) := by omega
  have ed : WT.G s t s' t' N - WT.G s t s' t' (8 + L) = WT.drf t t' := by omega
  unfold F_law_11
  generalize apartD s t s' t' N = A at *
  generalize cntsD s t N = C at *
  generalize cntsD s' t' N = C' at *
  simp only [runF, runR, start0, sRet, sSeq, sIf, sSet, sSetL, sPar, sParL, sAsg, sExpr, sSetIx, sApp, sAug, sNx, sBad, sBk, sRetN, thenS, fVar, fC, fOp, fUn, fTst, fNot, fAnd, fOr, fIf, fNil, fCons, fTup, fCall, fAndV, fOrV, fChain, fIsi, fIsi2, isTy, fSl, fNoPart, fPart, fM1, fCallF, fOwnIx, fRow, fOfL, fLstL, gfN, gfT, gfC, gfNil, Out.bind, ofO, opCmp, opIx, opAdd, opSub, unNeg, unNot, opSl, bLen, bInt, List.getElem?_cons_zero, List.getElem?_cons_succ, List.getElem?_nil, List.set_cons_zero, List.set_cons_succ, List.map_cons, List.map_nil, List.length_cons, List.length_nil, List.replicate_succ, List.replicate_zero, List.cons_append, List.nil_append, List.append_nil, if_true, if_false, ite_true, ite_false, reduceIte, Nat.reduceAdd, Nat.reduceSub, Nat.reduceLeDiff, Bool.not_true, Bool.not_false, Bool.false_eq_true, decide_true, decide_false, Option.map_some, Option.bind_some, Nat.zero_add, Nat.le_refl, String.reduceBEq, Bool.or_false, Bool.or_self, Bool.or_true, Bool.false_or, Bool.true_or, e1, e2, ei, ed, show (12 : Nat) < 24 from by decide]
theorem asI_apart (s t s' t' : List Nat) (n : Nat) : asInts (apartD s t s' t' n) = some ((List.range (n + 1)).map (WT.G s t s' t')) := asInts_rng (WT.G s t s' t') (n + 1)
theorem max_gap {s t s' t' : List Nat} {M : Int} {N : Nat} (hl : 0 < t.length) (hl' : 0 < t'.length) (hN : max s.length s'.length + Nat.lcm t.length t'.length ≤ N) (g : WT.Gap s t s' t' (some M)) : bMaxL [.lst (apartD s t s' t' N)] = some (.int M) := by
  cases g with
  | some _ h1 h2 h3 =>
    obtain ⟨n, hn⟩ := h2
    obtain ⟨m, m1, m2⟩ := WT.G_bound (s := s) (s' := s') hl hl' h1 n
    have hM : maxL ((List.range (N + 1)).map (WT.G s t s' t')) = some M := by
      refine maxL_of ?_ ?_
      · refine List.mem_map.mpr ⟨m, List.mem_range.mpr (by omega), ?_⟩
        have := h3 m
        omega
      · intro y hy
        obtain ⟨j, _, rfl⟩ := List.mem_map.mp hy
        exact h3 j
    unfold bMaxL
    simp only [asI_apart, Option.bind_some, hM, Option.map_some]
theorem lawA_12 {w0 w3 w4 : D} {row : List D} {s t s' t' : List Nat} {L N : Nat} (k : Two s t s' t') (hL : Nat.lcm t.length t'.length = L) (hN : N = 8 + 2 * L) : ∃ d, WT.Gap s t s' t' d ∧ F_law_12 [some (w0), some (.lst row), some (wd s t), some (w3), some (w4), some (wd s' t'), some (.int (L : Int)), some (.int (N : Int)), some (.lst [.lst (cntsD s t N), .lst (cntsD s' t' N)]), none, some (.lst (apartD s t s' t' N)), none, some (.int (WT.drf t t')), none, none, none, none, none, none, none, none, none, none, none] = .nx [some (w0), some (.lst row), some (wd s t), some (w3), some (w4), some (wd s' t'), some (.int (L : Int)), some (.int (N : Int)), some (.lst [.lst (cntsD s t N), .lst (cntsD s' t' N)]), none, some (.lst (apartD s t s' t' N)), none, some (.int (WT.drf t t')), some (gapD d), none, none, none, none, none, none, none, none, none, none] := by
  obtain ⟨_, hl⟩ := k.L30 hL
  obtain ⟨d, g, _⟩ := gap_wd (k.h.up (show 6 ≤ 400 by decide)) (k.k.up (show 8 ≤ 400 by decide))
  refine ⟨d, g, ?_⟩
  have hs := k.hs
  have hs' := k.k.ls
  unfold F_law_12
  cases d with
  | none =>
    cases g with
    | none h1 _ =>
      generalize apartD s t s' t' N = A at *
      generalize cntsD s t N = C at *
      generalize cntsD s' t' N = C' at *
      have e : gapD none = .non := rfl
      simp only [runF, runR, start0, sRet, sSeq, sIf, sSet, sSetL, sPar, sParL, sAsg, sExpr, sSetIx, sApp, sAug, sNx, sBad, sBk, sRetN, thenS, fVar, fC, fOp, fUn, fTst, fNot, fAnd, fOr, fIf, fNil, fCons, fTup, fCall, fAndV, fOrV, fChain, fIsi, fIsi2, isTy, fSl, fNoPart, fPart, fM1, fCallF, fOwnIx, fRow, fOfL, fLstL, gfN, gfT, gfC, gfNil, Out.bind, ofO, opCmp, opIx, opAdd, opSub, unNeg, unNot, opSl, bLen, bInt, List.getElem?_cons_zero, List.getElem?_cons_succ, List.getElem?_nil, List.set_cons_zero, List.set_cons_succ, List.map_cons, List.map_nil, List.length_cons, List.length_nil, List.replicate_succ, List.replicate_zero, List.cons_append, List.nil_append, List.append_nil, if_true, if_false, ite_true, ite_false, reduceIte, Nat.reduceAdd, Nat.reduceSub, Nat.reduceLeDiff, Bool.not_true, Bool.not_false, Bool.false_eq_true, decide_true, decide_false, Option.map_some, Option.bind_some, Nat.zero_add, Nat.le_refl, String.reduceBEq, Bool.or_false, Bool.or_self, Bool.or_true, Bool.false_or, Bool.true_or, decide_eq_true h1, e, show (13 : Nat) < 24 from by decide]
  | some M =>
    have em := max_gap (N := N) k.h.pos k.k.pos (by omega) g
    have e : gapD (some M) = .int M := rfl
    cases g with
    | some _ h1 _ _ =>
      have h1 : ¬ 0 < WT.drf t t' := by omega
      generalize apartD s t s' t' N = A at *
      generalize cntsD s t N = C at *
      generalize cntsD s' t' N = C' at *
      simp only [runF, runR, start0, sRet, sSeq, sIf, sSet, sSetL, sPar, sParL, sAsg, sExpr, sSetIx, sApp, sAug, sNx, sBad, sBk, sRetN, thenS, fVar, fC, fOp, fUn, fTst, fNot, fAnd, fOr, fIf, fNil, fCons, fTup, fCall, fAndV, fOrV, fChain, fIsi, fIsi2, isTy, fSl, fNoPart, fPart, fM1, fCallF, fOwnIx, fRow, fOfL, fLstL, gfN, gfT, gfC, gfNil, Out.bind, ofO, opCmp, opIx, opAdd, opSub, unNeg, unNot, opSl, bLen, bInt, List.getElem?_cons_zero, List.getElem?_cons_succ, List.getElem?_nil, List.set_cons_zero, List.set_cons_succ, List.map_cons, List.map_nil, List.length_cons, List.length_nil, List.replicate_succ, List.replicate_zero, List.cons_append, List.nil_append, List.append_nil, if_true, if_false, ite_true, ite_false, reduceIte, Nat.reduceAdd, Nat.reduceSub, Nat.reduceLeDiff, Bool.not_true, Bool.not_false, Bool.false_eq_true, decide_true, decide_false, Option.map_some, Option.bind_some, Nat.zero_add, Nat.le_refl, String.reduceBEq, Bool.or_false, Bool.or_self, Bool.or_true, Bool.false_or, Bool.true_or, decide_eq_false h1, em, e, show (13 : Nat) < 24 from by decide]
theorem min_apart (s t s' t' : List Nat) (N : Nat) : ∃ m, bMinL [.lst (apartD s t s' t' N)] = some (.int m) ∧ (0 ≤ m ↔ ∀ n, n ≤ N → 0 ≤ WT.G s t s' t' n) := by
  have hm : ∃ m, minL ((List.range (N + 1)).map (WT.G s t s' t')) = some m := by
    rw [List.range_succ_eq_map, List.map_cons]
    exact ⟨_, rfl⟩
  obtain ⟨m, hm⟩ := hm
  obtain ⟨h1, h2⟩ := minL_le hm
  refine ⟨m, ?_, ?_⟩
  · unfold bMinL
    simp only [asI_apart, Option.bind_some, hm, Option.map_some]
  · constructor
    · intro z n hn
      have := h2 _ (List.mem_map.mpr ⟨n, List.mem_range.mpr (by omega), rfl⟩)
      omega
    · intro z
      obtain ⟨n, hn, rfl⟩ := List.mem_map.mp h1
      exact z n (by have := List.mem_range.mp hn; omega)
theorem ahead_iff {s t s' t' : List Nat} {N : Nat} (hl : 0 < t.length) (hl' : 0 < t'.length) (hN : max s.length s'.length + Nat.lcm t.length t'.length ≤ N) : ((∀ n, n ≤ N → 0 ≤ WT.G s t s' t' n) ∧ 0 ≤ WT.drf t t') ↔ Ahead s t s' t' := by
  constructor
  · rintro ⟨a, b⟩ n
    obtain ⟨m, m1, m2⟩ := WT.G_bound (s := s') (s' := s) (t := t') (t' := t) hl' hl (by rw [WT.drf_neg]; omega) n
    rw [Nat.lcm_comm] at m1
    have := a m (by omega)
    rw [WT.G_neg, WT.G_neg s' t' s t m] at m2
    have : 0 ≤ WT.G s t s' t' n := by omega
    unfold WT.G at this
    omega
  · intro a
    refine ⟨fun n _ => ?_, WT.drf_dom hl hl' a⟩
    have := a n
    unfold WT.G
    omega
theorem lawA_13 {w0 w3 w4 : D} {row : List D} {s t s' t' : List Nat} {L N : Nat} (k : Two s t s' t') (hL : Nat.lcm t.length t'.length = L) (hN : N = 8 + 2 * L) {d : Option Int} : ∃ b : Bool, (b = true ↔ Ahead s t s' t') ∧ F_law_13 [some (w0), some (.lst row), some (wd s t), some (w3), some (w4), some (wd s' t'), some (.int (L : Int)), some (.int (N : Int)), some (.lst [.lst (cntsD s t N), .lst (cntsD s' t' N)]), none, some (.lst (apartD s t s' t' N)), none, some (.int (WT.drf t t')), some (gapD d), none, none, none, none, none, none, none, none, none, none] = .nx [some (w0), some (.lst row), some (wd s t), some (w3), some (w4), some (wd s' t'), some (.int (L : Int)), some (.int (N : Int)), some (.lst [.lst (cntsD s t N), .lst (cntsD s' t' N)]), none, some (.lst (apartD s t s' t' N)), none, some (.int (WT.drf t t')), some (gapD d), some (.bl b), none, none, none, none, none, none, none, none, none] := by
  obtain ⟨_, hl⟩ := k.L30 hL
  have hs := k.hs
  have hs' := k.k.ls
  obtain ⟨m, e, hm⟩ := min_apart s t s' t' N
  have hi := ahead_iff (s := s) (s' := s') (N := N) k.h.pos k.k.pos (by omega)
  rw [← hm] at hi
  refine ⟨decide (0 ≤ m) && decide (0 ≤ WT.drf t t'), by rw [Bool.and_eq_true_iff, decide_eq_true_iff, decide_eq_true_iff]; exact hi, ?_⟩
  unfold F_law_13
  generalize apartD s t s' t' N = A at *
  generalize cntsD s t N = C at *
  generalize cntsD s' t' N = C' at *
  cases hz : decide (0 ≤ m) with
  | true => simp only [runF, runR, start0, sRet, sSeq, sIf, sSet, sSetL, sPar, sParL, sAsg, sExpr, sSetIx, sApp, sAug, sNx, sBad, sBk, sRetN, thenS, fVar, fC, fOp, fUn, fTst, fNot, fAnd, fOr, fIf, fNil, fCons, fTup, fCall, fAndV, fOrV, fChain, fIsi, fIsi2, isTy, fSl, fNoPart, fPart, fM1, fCallF, fOwnIx, fRow, fOfL, fLstL, gfN, gfT, gfC, gfNil, Out.bind, ofO, opCmp, opIx, opAdd, opSub, unNeg, unNot, opSl, bLen, bInt, List.getElem?_cons_zero, List.getElem?_cons_succ, List.getElem?_nil, List.set_cons_zero, List.set_cons_succ, List.map_cons, List.map_nil, List.length_cons, List.length_nil, List.replicate_succ, List.replicate_zero, List.cons_append, List.nil_append, List.append_nil, if_true, if_false, ite_true, ite_false, reduceIte, Nat.reduceAdd, Nat.reduceSub, Nat.reduceLeDiff, Bool.not_true, Bool.not_false, Bool.false_eq_true, decide_true, decide_false, Option.map_some, Option.bind_some, Nat.zero_add, Nat.le_refl, String.reduceBEq, Bool.or_false, Bool.or_self, Bool.or_true, Bool.false_or, Bool.true_or, e, hz, Bool.true_and, show (14 : Nat) < 24 from by decide]
  | false => simp only [runF, runR, start0, sRet, sSeq, sIf, sSet, sSetL, sPar, sParL, sAsg, sExpr, sSetIx, sApp, sAug, sNx, sBad, sBk, sRetN, thenS, fVar, fC, fOp, fUn, fTst, fNot, fAnd, fOr, fIf, fNil, fCons, fTup, fCall, fAndV, fOrV, fChain, fIsi, fIsi2, isTy, fSl, fNoPart, fPart, fM1, fCallF, fOwnIx, fRow, fOfL, fLstL, gfN, gfT, gfC, gfNil, Out.bind, ofO, opCmp, opIx, opAdd, opSub, unNeg, unNot, opSl, bLen, bInt, List.getElem?_cons_zero, List.getElem?_cons_succ, List.getElem?_nil, List.set_cons_zero, List.set_cons_succ, List.map_cons, List.map_nil, List.length_cons, List.length_nil, List.replicate_succ, List.replicate_zero, List.cons_append, List.nil_append, List.append_nil, if_true, if_false, ite_true, ite_false, reduceIte, Nat.reduceAdd, Nat.reduceSub, Nat.reduceLeDiff, Bool.not_true, Bool.not_false, Bool.false_eq_true, decide_true, decide_false, Option.map_some, Option.bind_some, Nat.zero_add, Nat.le_refl, String.reduceBEq, Bool.or_false, Bool.or_self, Bool.or_true, Bool.false_or, Bool.true_or, e, hz, Bool.false_and, show (14 : Nat) < 24 from by decide]
theorem lawA_14 {w0 w3 w4 : D} {row : List D} {s t s' t' : List Nat} {L N : Nat} (k : Two s t s' t') (hL : Nat.lcm t.length t'.length = L) (hN : N = 8 + 2 * L) {d : Option Int} {b : Bool} (g : WT.Gap s t s' t' d) (hb : b = true ↔ Ahead s t s' t') : F_law_14 [some (w0), some (.lst row), some (wd s t), some (w3), some (w4), some (wd s' t'), some (.int (L : Int)), some (.int (N : Int)), some (.lst [.lst (cntsD s t N), .lst (cntsD s' t' N)]), none, some (.lst (apartD s t s' t' N)), none, some (.int (WT.drf t t')), some (gapD d), some (.bl b), none, none, none, none, none, none, none, none, none] = .nx [some (w0), some (.lst row), some (wd s t), some (w3), some (w4), some (wd s' t'), some (.int (L : Int)), some (.int (N : Int)), some (.lst [.lst (cntsD s t N), .lst (cntsD s' t' N)]), none, some (.lst (apartD s t s' t' N)), none, some (.int (WT.drf t t')), some (gapD d), some (.bl b), none, none, none, none, none, none, none, none, none] := by
  have h4 := k.h.up (show 6 ≤ 400 by decide)
  have k4 := k.k.up (show 8 ≤ 400 by decide)
  obtain ⟨d', g', e1⟩ := gap_wd h4 k4
  obtain ⟨b', hb', e2⟩ := is_earlier_wd h4 k4
  have : d' = d := g'.uniq g
  subst this
  have : b' = b := Bool.eq_iff_iff.mpr (hb'.trans hb.symm)
  subst this
  have e3 : m_law_alike 3 [.lst [gapD d', .bl b'], .lst [gapD d', .bl b']] = .ok (.bl true) := alike_seq 2 _ _ (.inl rfl) (by simp) fun x hx => by
    rcases List.mem_cons.mp hx with q | q
    · rw [q]
      exact alike_gap 1 _
    · rw [List.mem_singleton.mp q]
      exact alike_bl 1 _
  have l2 : 2 ≤ lim := limS (by omega)
  unfold F_law_14
  generalize apartD s t s' t' N = A at *
  generalize cntsD s t N = C at *
  generalize cntsD s' t' N = C' at *
  simp only [runF, runR, start0, sRet, sSeq, sIf, sSet, sSetL, sPar, sParL, sAsg, sExpr, sSetIx, sApp, sAug, sNx, sBad, sBk, sRetN, thenS, fVar, fC, fOp, fUn, fTst, fNot, fAnd, fOr, fIf, fNil, fCons, fTup, fCall, fAndV, fOrV, fChain, fIsi, fIsi2, isTy, fSl, fNoPart, fPart, fM1, fCallF, fOwnIx, fRow, fOfL, fLstL, gfN, gfT, gfC, gfNil, Out.bind, ofO, opCmp, opIx, opAdd, opSub, unNeg, unNot, opSl, bLen, bInt, List.getElem?_cons_zero, List.getElem?_cons_succ, List.getElem?_nil, List.set_cons_zero, List.set_cons_succ, List.map_cons, List.map_nil, List.length_cons, List.length_nil, List.replicate_succ, List.replicate_zero, List.cons_append, List.nil_append, List.append_nil, if_true, if_false, ite_true, ite_false, reduceIte, Nat.reduceAdd, Nat.reduceSub, Nat.reduceLeDiff, Bool.not_true, Bool.not_false, Bool.false_eq_true, decide_true, decide_false, Option.map_some, Option.bind_some, Nat.zero_add, Nat.le_refl, String.reduceBEq, Bool.or_false, Bool.or_self, Bool.or_true, Bool.false_or, Bool.true_or, e1, e2, e3, if_pos l2]
theorem lawA_15 {w0 w3 w4 : D} {row : List D} {s t s' t' : List Nat} {L N : Nat} (k : Two s t s' t') (hL : Nat.lcm t.length t'.length = L) (hN : N = 8 + 2 * L) {d : Option Int} {b : Bool} (g : WT.Gap s t s' t' d) (hb : b = true ↔ Ahead s t s' t') : F_law_15 [some (w0), some (.lst row), some (wd s t), some (w3), some (w4), some (wd s' t'), some (.int (L : Int)), some (.int (N : Int)), some (.lst [.lst (cntsD s t N), .lst (cntsD s' t' N)]), none, some (.lst (apartD s t s' t' N)), none, some (.int (WT.drf t t')), some (gapD d), some (.bl b), none, none, none, none, none, none, none, none, none] = .nx [some (w0), some (.lst row), some (wd s t), some (w3), some (w4), some (wd s' t'), some (.int (L : Int)), some (.int (N : Int)), some (.lst [.lst (cntsD s t N), .lst (cntsD s' t' N)]), none, some (.lst (apartD s t s' t' N)), none, some (.int (WT.drf t t')), some (gapD d), some (.bl b), none, none, none, none, none, none, none, none, none] := by
  have h4 := k.h.up (show 6 ≤ 400 by decide)
  have k4 := k.k.up (show 8 ≤ 400 by decide)
  obtain ⟨b', d', hb', g', e1⟩ := size_wd h4 k4
  have : d' = d := g'.uniq g
  subst this
  have : b' = b := Bool.eq_iff_iff.mpr (hb'.trans hb.symm)
  subst this
  have e3 := alike_gap 2 d'
  have e4 := alike_non 2
  unfold F_law_15
  generalize apartD s t s' t' N = A at *
  generalize cntsD s t N = C at *
  generalize cntsD s' t' N = C' at *
  cases b' with
  | true => simp only [runF, runR, start0, sRet, sSeq, sIf, sSet, sSetL, sPar, sParL, sAsg, sExpr, sSetIx, sApp, sAug, sNx, sBad, sBk, sRetN, thenS, fVar, fC, fOp, fUn, fTst, fNot, fAnd, fOr, fIf, fNil, fCons, fTup, fCall, fAndV, fOrV, fChain, fIsi, fIsi2, isTy, fSl, fNoPart, fPart, fM1, fCallF, fOwnIx, fRow, fOfL, fLstL, gfN, gfT, gfC, gfNil, Out.bind, ofO, opCmp, opIx, opAdd, opSub, unNeg, unNot, opSl, bLen, bInt, List.getElem?_cons_zero, List.getElem?_cons_succ, List.getElem?_nil, List.set_cons_zero, List.set_cons_succ, List.map_cons, List.map_nil, List.length_cons, List.length_nil, List.replicate_succ, List.replicate_zero, List.cons_append, List.nil_append, List.append_nil, if_true, if_false, ite_true, ite_false, reduceIte, Nat.reduceAdd, Nat.reduceSub, Nat.reduceLeDiff, Bool.not_true, Bool.not_false, Bool.false_eq_true, decide_true, decide_false, Option.map_some, Option.bind_some, Nat.zero_add, Nat.le_refl, String.reduceBEq, Bool.or_false, Bool.or_self, Bool.or_true, Bool.false_or, Bool.true_or, e1, e3]
  | false => simp only [runF, runR, start0, sRet, sSeq, sIf, sSet, sSetL, sPar, sParL, sAsg, sExpr, sSetIx, sApp, sAug, sNx, sBad, sBk, sRetN, thenS, fVar, fC, fOp, fUn, fTst, fNot, fAnd, fOr, fIf, fNil, fCons, fTup, fCall, fAndV, fOrV, fChain, fIsi, fIsi2, isTy, fSl, fNoPart, fPart, fM1, fCallF, fOwnIx, fRow, fOfL, fLstL, gfN, gfT, gfC, gfNil, Out.bind, ofO, opCmp, opIx, opAdd, opSub, unNeg, unNot, opSl, bLen, bInt, List.getElem?_cons_zero, List.getElem?_cons_succ, List.getElem?_nil, List.set_cons_zero, List.set_cons_succ, List.map_cons, List.map_nil, List.length_cons, List.length_nil, List.replicate_succ, List.replicate_zero, List.cons_append, List.nil_append, List.append_nil, if_true, if_false, ite_true, ite_false, reduceIte, Nat.reduceAdd, Nat.reduceSub, Nat.reduceLeDiff, Bool.not_true, Bool.not_false, Bool.false_eq_true, decide_true, decide_false, Option.map_some, Option.bind_some, Nat.zero_add, Nat.le_refl, String.reduceBEq, Bool.or_false, Bool.or_self, Bool.or_true, Bool.false_or, Bool.true_or, e1, e4]
end Lw

namespace Lw
open PySem PySem.Spec PyProof PyProof.Rows DL ES
theorem ends_cross {most : Bool} {s t s' t' : List Nat} (h1 : 0 < WT.drf t t' → ∀ n, 400 ≤ n → 0 ≤ WT.G s t s' t' n) (h2 : 0 < WT.drf t' t → ∀ n, 400 ≤ n → 0 ≤ WT.G s' t' s t n) : Ends most s t s' t' := by
  intro hd n hn
  have key : ∀ b : Bool, decide (0 < WT.drf t t') = b → (b = true → WT.cnt s' t' n ≤ WT.cnt s t n) ∧ (b = false → WT.cnt s t n ≤ WT.cnt s' t' n) := fun b hb => by
    constructor
    · intro z
      have := h1 (of_decide_eq_true (hb.trans z)) n hn
      unfold WT.G at this
      omega
    · intro z
      have q := of_decide_eq_false (hb.trans z)
      have := h2 (by rw [WT.drf_neg]; omega) n hn
      unfold WT.G at this
      omega
  obtain ⟨k1, k2⟩ := key _ rfl
  unfold lastW topE topN
  cases hb : decide (0 < WT.drf t t') with
  | true =>
    have := k1 hb
    cases most with
    | true =>
      rw [if_pos rfl, if_pos (by decide)]
      exact Nat.max_eq_left this
    | false =>
      rw [if_neg (by decide), if_neg (by decide)]
      exact Nat.min_eq_right this
  | false =>
    have := k2 hb
    cases most with
    | true =>
      rw [if_pos rfl, if_neg (by decide)]
      exact Nat.max_eq_right this
    | false =>
      rw [if_neg (by decide), if_pos (by decide)]
      exact Nat.min_eq_left this
theorem ends_two {most : Bool} {s t s' t' : List Nat} (k : Two s t s' t') : Ends most (WT.normL s t).1 (WT.normL s t).2 (WT.normL s' t').1 (WT.normL s' t').2 := by
  have n1 := says_norm k.h
  have n2 := says_norm k.k
  have l1 := k.h.lt
  have l2 := k.ht
  have l3 := k.hs
  have p1 := k.h.norm.pos
  have p2 := k.k.norm.pos
  rcases k.hx with q | q
  · refine ends_cross (fun hd n hn => WT.cross_6 p1 p2 ?_ ?_ ?_ ?_ hd hn) (fun hd n hn => WT.cross_6 p2 p1 ?_ ?_ ?_ ?_ hd hn) <;> (have := n1.ls; have := n1.lt; have := n2.ls; have := n2.lt; omega)
  · intro hd
    exact (hd (WT.drf_zero_ext k.h.pos k.k.pos p1 p2 n1.sat n2.sat (by rw [q]; exact WT.drf_self t))).elim
theorem lawA_16 {w0 w3 w4 w7 w8 w10 w12 w13 w14 : D} {row : List D} {s t s' t' : List Nat} {L M : Nat} (k : Two s t s' t') (hL : Nat.lcm t.length t'.length = L) (hM : M = 8 + 60 * L) : F_law_16 [some (w0), some (.lst row), some (wd s t), some (w3), some (w4), some (wd s' t'), some (.int (L : Int)), some (w7), some (w8), none, some (w10), none, some (w12), some (w13), some (w14), none, none, none, none, none, none, none, none, none] = .nx [some (w0), some (.lst row), some (wd s t), some (w3), some (w4), some (wd s' t'), some (.int (L : Int)), some (w7), some (w8), none, some (w10), none, some (w12), some (w13), some (w14), some (.int (M : Int)), none, none, none, none, none, none, none, none] := by
  have em : opMul (.int 60) (.int (L : Int)) = some (.int (60 * (L : Int))) := mulI (.inl (by decide))
  have e1 : (8 : Int) + 60 * (L : Int) = (M : Int) := by omega
  unfold F_law_16
  simp only [runF, runR, start0, sRet, sSeq, sIf, sSet, sSetL, sPar, sParL, sAsg, sExpr, sSetIx, sApp, sAug, sNx, sBad, sBk, sRetN, thenS, fVar, fC, fOp, fUn, fTst, fNot, fAnd, fOr, fIf, fNil, fCons, fTup, fCall, fAndV, fOrV, fChain, fIsi, fIsi2, isTy, fSl, fNoPart, fPart, fM1, fCallF, fOwnIx, fRow, fOfL, fLstL, gfN, gfT, gfC, gfNil, Out.bind, ofO, opCmp, opIx, opAdd, opSub, unNeg, unNot, opSl, bLen, bInt, List.getElem?_cons_zero, List.getElem?_cons_succ, List.getElem?_nil, List.set_cons_zero, List.set_cons_succ, List.map_cons, List.map_nil, List.length_cons, List.length_nil, List.replicate_succ, List.replicate_zero, List.cons_append, List.nil_append, List.append_nil, if_true, if_false, ite_true, ite_false, reduceIte, Nat.reduceAdd, Nat.reduceSub, Nat.reduceLeDiff, Bool.not_true, Bool.not_false, Bool.false_eq_true, decide_true, decide_false, Option.map_some, Option.bind_some, Nat.zero_add, Nat.le_refl, String.reduceBEq, Bool.or_false, Bool.or_self, Bool.or_true, Bool.false_or, Bool.true_or, em, e1, show (15 : Nat) < 24 from by decide]
theorem lawA_17 {w0 w3 w4 w7 w8 w10 w12 w13 w14 : D} {row : List D} {s t s' t' : List Nat} {L M : Nat} (k : Two s t s' t') (hL : Nat.lcm t.length t'.length = L) (hM : M = 8 + 60 * L) : F_law_17 [some (w0), some (.lst row), some (wd s t), some (w3), some (w4), some (wd s' t'), some (.int (L : Int)), some (w7), some (w8), none, some (w10), none, some (w12), some (w13), some (w14), some (.int (M : Int)), none, none, none, none, none, none, none, none] = .nx [some (w0), some (.lst row), some (wd s t), some (w3), some (w4), some (wd s' t'), some (.int (L : Int)), some (w7), some (w8), none, some (w10), none, some (w12), some (w13), some (w14), some (.int (M : Int)), some (.lst [.str (WT.txt s t M), .str (WT.txt s' t' M)]), none, none, none, none, none, none, none] := by
  have h4 := k.h.up (show 6 ≤ 400 by decide)
  have k4 := k.k.up (show 8 ≤ 400 by decide)
  obtain ⟨_, hl⟩ := k.L30 hL
  have e1 := law_bits_wd h4 (n := M) (by omega)
  have e2 := law_bits_wd k4 (n := M) (by omega)
  have l2 : 2 ≤ lim := limS (by omega)
  have e : fComp [9] (fIt (fOfL (fLstL (fCons (fVar 2) (fCons (fVar 5) fNil))))) (gfN 9) fYes (fCallF m_law_bits (fCons (fVar 9) (fCons (fVar 15) fNil))) [some (w0), some (.lst row), some (wd s t), some (w3), some (w4), some (wd s' t'), some (.int (L : Int)), some (w7), some (w8), none, some (w10), none, some (w12), some (w13), some (w14), some (.int (M : Int)), none, none, none, none, none, none, none, none] = .ok [.str (WT.txt s t M), .str (WT.txt s' t' M)] [some (w0), some (.lst row), some (wd s t), some (w3), some (w4), some (wd s' t'), some (.int (L : Int)), some (w7), some (w8), none, some (w10), none, some (w12), some (w13), some (w14), some (.int (M : Int)), none, none, none, none, none, none, none, none] := by
    generalize WT.txt s t M = T at *
    generalize WT.txt s' t' M = T' at *
    simp only [runF, runR, start0, sRet, sSeq, sIf, sSet, sSetL, sPar, sParL, sAsg, sExpr, sSetIx, sApp, sAug, sNx, sBad, sBk, sRetN, thenS, fVar, fC, fOp, fUn, fTst, fNot, fAnd, fOr, fIf, fNil, fCons, fTup, fCall, fAndV, fOrV, fChain, fIsi, fIsi2, isTy, fSl, fNoPart, fPart, fM1, fCallF, fOwnIx, fRow, fOfL, fLstL, gfN, gfT, gfC, gfNil, Out.bind, ofO, opCmp, opIx, opAdd, opSub, unNeg, unNot, opSl, bLen, bInt, List.getElem?_cons_zero, List.getElem?_cons_succ, List.getElem?_nil, List.set_cons_zero, List.set_cons_succ, List.map_cons, List.map_nil, List.length_cons, List.length_nil, List.replicate_succ, List.replicate_zero, List.cons_append, List.nil_append, List.append_nil, if_true, if_false, ite_true, ite_false, reduceIte, Nat.reduceAdd, Nat.reduceSub, Nat.reduceLeDiff, Bool.not_true, Bool.not_false, Bool.false_eq_true, decide_true, decide_false, Option.map_some, Option.bind_some, Nat.zero_add, Nat.le_refl, String.reduceBEq, Bool.or_false, Bool.or_self, Bool.or_true, Bool.false_or, Bool.true_or, fComp, fIt, itemsOf, if_pos l2, compP, gfN, fYes, wipeR, e1, e2, ofO]
  unfold F_law_17
  generalize fComp [9] (fIt (fOfL (fLstL (fCons (fVar 2) (fCons (fVar 5) fNil))))) (gfN 9) fYes (fCallF m_law_bits (fCons (fVar 9) (fCons (fVar 15) fNil))) = ff at *
  generalize WT.txt s t M = T at *
  generalize WT.txt s' t' M = T' at *
  simp only [runF, runR, start0, sRet, sSeq, sIf, sSet, sSetL, sPar, sParL, sAsg, sExpr, sSetIx, sApp, sAug, sNx, sBad, sBk, sRetN, thenS, fVar, fC, fOp, fUn, fTst, fNot, fAnd, fOr, fIf, fNil, fCons, fTup, fCall, fAndV, fOrV, fChain, fIsi, fIsi2, isTy, fSl, fNoPart, fPart, fM1, fCallF, fOwnIx, fRow, fOfL, fLstL, gfN, gfT, gfC, gfNil, Out.bind, ofO, opCmp, opIx, opAdd, opSub, unNeg, unNot, opSl, bLen, bInt, List.getElem?_cons_zero, List.getElem?_cons_succ, List.getElem?_nil, List.set_cons_zero, List.set_cons_succ, List.map_cons, List.map_nil, List.length_cons, List.length_nil, List.replicate_succ, List.replicate_zero, List.cons_append, List.nil_append, List.append_nil, if_true, if_false, ite_true, ite_false, reduceIte, Nat.reduceAdd, Nat.reduceSub, Nat.reduceLeDiff, Bool.not_true, Bool.not_false, Bool.false_eq_true, decide_true, decide_false, Option.map_some, Option.bind_some, Nat.zero_add, Nat.le_refl, String.reduceBEq, Bool.or_false, Bool.or_self, Bool.or_true, Bool.false_or, Bool.true_or, e, show (16 : Nat) < 24 from by decide]
theorem lawA_18 {w0 w3 w4 w7 w8 w10 w12 w13 w14 : D} {row : List D} {s t s' t' : List Nat} {L M : Nat} (k : Two s t s' t') (hL : Nat.lcm t.length t'.length = L) (hM : M = 8 + 60 * L) : F_law_18 [some (w0), some (.lst row), some (wd s t), some (w3), some (w4), some (wd s' t'), some (.int (L : Int)), some (w7), some (w8), none, some (w10), none, some (w12), some (w13), some (w14), some (.int (M : Int)), some (.lst [.str (WT.txt s t M), .str (WT.txt s' t' M)]), none, none, none, none, none, none, none] = .nx [some (w0), some (.lst row), some (wd s t), some (w3), some (w4), some (wd s' t'), some (.int (L : Int)), some (w7), some (.lst [.lst (cntsD s t M), .lst (cntsD s' t' M)]), none, some (w10), none, some (w12), some (w13), some (w14), some (.int (M : Int)), some (.lst [.str (WT.txt s t M), .str (WT.txt s' t' M)]), none, none, none, none, none, none, none] := by
  have h4 := k.h.up (show 6 ≤ 400 by decide)
  have k4 := k.k.up (show 8 ≤ 400 by decide)
  obtain ⟨_, hl⟩ := k.L30 hL
  have e3 := sums_txt h4 (n := M) (by omega)
  have e4 := sums_txt k4 (n := M) (by omega)
  have l2 : 2 ≤ lim := limS (by omega)
  have e : fComp [17] (fIt (fVar 16)) (gfN 17) fYes (fCallF m_law_sums (fCons (fVar 17) fNil)) [some (w0), some (.lst row), some (wd s t), some (w3), some (w4), some (wd s' t'), some (.int (L : Int)), some (w7), some (w8), none, some (w10), none, some (w12), some (w13), some (w14), some (.int (M : Int)), some (.lst [.str (WT.txt s t M), .str (WT.txt s' t' M)]), none, none, none, none, none, none, none] = .ok [.lst (cntsD s t M), .lst (cntsD s' t' M)] [some (w0), some (.lst row), some (wd s t), some (w3), some (w4), some (wd s' t'), some (.int (L : Int)), some (w7), some (w8), none, some (w10), none, some (w12), some (w13), some (w14), some (.int (M : Int)), some (.lst [.str (WT.txt s t M), .str (WT.txt s' t' M)]), none, none, none, none, none, none, none] := by
    generalize WT.txt s t M = T at *
    generalize WT.txt s' t' M = T' at *
    generalize cntsD s t M = C at *
    generalize cntsD s' t' M = C' at *
    simp only [runF, runR, start0, sRet, sSeq, sIf, sSet, sSetL, sPar, sParL, sAsg, sExpr, sSetIx, sApp, sAug, sNx, sBad, sBk, sRetN, thenS, fVar, fC, fOp, fUn, fTst, fNot, fAnd, fOr, fIf, fNil, fCons, fTup, fCall, fAndV, fOrV, fChain, fIsi, fIsi2, isTy, fSl, fNoPart, fPart, fM1, fCallF, fOwnIx, fRow, fOfL, fLstL, gfN, gfT, gfC, gfNil, Out.bind, ofO, opCmp, opIx, opAdd, opSub, unNeg, unNot, opSl, bLen, bInt, List.getElem?_cons_zero, List.getElem?_cons_succ, List.getElem?_nil, List.set_cons_zero, List.set_cons_succ, List.map_cons, List.map_nil, List.length_cons, List.length_nil, List.replicate_succ, List.replicate_zero, List.cons_append, List.nil_append, List.append_nil, if_true, if_false, ite_true, ite_false, reduceIte, Nat.reduceAdd, Nat.reduceSub, Nat.reduceLeDiff, Bool.not_true, Bool.not_false, Bool.false_eq_true, decide_true, decide_false, Option.map_some, Option.bind_some, Nat.zero_add, Nat.le_refl, String.reduceBEq, Bool.or_false, Bool.or_self, Bool.or_true, Bool.false_or, Bool.true_or, fComp, fIt, itemsOf, if_pos l2, compP, gfN, fYes, wipeR, e3, e4, ofO]
  unfold F_law_18
  generalize fComp [17] (fIt (fVar 16)) (gfN 17) fYes (fCallF m_law_sums (fCons (fVar 17) fNil)) = ff at *
  generalize WT.txt s t M = T at *
  generalize WT.txt s' t' M = T' at *
  generalize cntsD s t M = C at *
  generalize cntsD s' t' M = C' at *
  simp only [runF, runR, start0, sRet, sSeq, sIf, sSet, sSetL, sPar, sParL, sAsg, sExpr, sSetIx, sApp, sAug, sNx, sBad, sBk, sRetN, thenS, fVar, fC, fOp, fUn, fTst, fNot, fAnd, fOr, fIf, fNil, fCons, fTup, fCall, fAndV, fOrV, fChain, fIsi, fIsi2, isTy, fSl, fNoPart, fPart, fM1, fCallF, fOwnIx, fRow, fOfL, fLstL, gfN, gfT, gfC, gfNil, Out.bind, ofO, opCmp, opIx, opAdd, opSub, unNeg, unNot, opSl, bLen, bInt, List.getElem?_cons_zero, List.getElem?_cons_succ, List.getElem?_nil, List.set_cons_zero, List.set_cons_succ, List.map_cons, List.map_nil, List.length_cons, List.length_nil, List.replicate_succ, List.replicate_zero, List.cons_append, List.nil_append, List.append_nil, if_true, if_false, ite_true, ite_false, reduceIte, Nat.reduceAdd, Nat.reduceSub, Nat.reduceLeDiff, Bool.not_true, Bool.not_false, Bool.false_eq_true, decide_true, decide_false, Option.map_some, Option.bind_some, Nat.zero_add, Nat.le_refl, String.reduceBEq, Bool.or_false, Bool.or_self, Bool.or_true, Bool.false_or, Bool.true_or, e, show (8 : Nat) < 24 from by decide]
def toldD (most : Bool) (s t s' t' : List Nat) (n : Nat) : List D := (List.range (n + 1)).map fun i => .int ((topE most s t s' t' i : Nat) : Int)
theorem toldD_get {most : Bool} {s t s' t' : List Nat} {n i : Nat} (h : i ≤ n) : L2.atI (toldD most s t s' t' n) (i : Int) = some (.int ((topE most s t s' t' i : Nat) : Int)) := by
  refine ix_nat ?_
  unfold toldD
  rw [List.getElem?_map, List.getElem?_range (by omega)]
  rfl
def chT (most : Bool) (s t s' t' : List Nat) (n : Nat) : List Nat := (List.range n).map (chX most s t s' t')
theorem max2N (a b : Nat) : bMax2 [.int (a : Int), .int (b : Int)] = some (.int ((max a b : Nat) : Int)) := by
  show some (D.int (if (b : Int) > (a : Int) then (b : Int) else (a : Int))) = _
  split <;> (congr 2; omega)
theorem min2N (a b : Nat) : bMin2 [.int (a : Int), .int (b : Int)] = some (.int ((min a b : Nat) : Int)) := by
  show some (D.int (if (b : Int) < (a : Int) then (b : Int) else (a : Int))) = _
  split <;> (congr 2; omega)
theorem comp_19a {w0 w3 w4 w7 w10 w12 w13 w14 w16 : D} {row : List D} {s t s' t' : List Nat} {L M : Nat} (k : Two s t s' t') (hL : Nat.lcm t.length t'.length = L) (hM : M = 8 + 60 * L) (most : Bool) (v17 v19 : Option D) : fComp [11] (fRng1 (fOp opAdd (fVar 15) (fC (.int 1)))) (gfN 11) fYes (fIf (fTst (fVar 18)) (fCall bMax2 (fCons (fOp opIx (fOp opIx (fVar 8) (fC (.int 0))) (fVar 11)) (fCons (fOp opIx (fOp opIx (fVar 8) (fC (.int 1))) (fVar 11)) fNil))) (fCall bMin2 (fCons (fOp opIx (fOp opIx (fVar 8) (fC (.int 0))) (fVar 11)) (fCons (fOp opIx (fOp opIx (fVar 8) (fC (.int 1))) (fVar 11)) fNil)))) [some (w0), some (.lst row), some (wd s t), some (w3), some (w4), some (wd s' t'), some (.int (L : Int)), some (w7), some (.lst [.lst (cntsD s t M), .lst (cntsD s' t' M)]), none, some (w10), none, some (w12), some (w13), some (w14), some (.int (M : Int)), some (w16), v17, some (.bl most), v19, none, none, none, none] = .ok (toldD most s t s' t' M) [some (w0), some (.lst row), some (wd s t), some (w3), some (w4), some (wd s' t'), some (.int (L : Int)), some (w7), some (.lst [.lst (cntsD s t M), .lst (cntsD s' t' M)]), none, some (w10), none, some (w12), some (w13), some (w14), some (.int (M : Int)), some (w16), v17, some (.bl most), v19, none, none, none, none] := by
  obtain ⟨_, hl⟩ := k.L30 hL
  have en : (M : Int) + 1 = ((M + 1 : Nat) : Int) := by omega
  refine comp_rng (rng1_of (n := M + 1) ?_ (by omega)) (by omega) fun i hi => ⟨[some (w0), some (.lst row), some (wd s t), some (w3), some (w4), some (wd s' t'), some (.int (L : Int)), some (w7), some (.lst [.lst (cntsD s t M), .lst (cntsD s' t' M)]), none, some (w10), some (.int (i : Int)), some (w12), some (w13), some (w14), some (.int (M : Int)), some (w16), v17, some (.bl most), v19, none, none, none, none], ?_⟩
  · generalize cntsD s t M = C at *
    generalize cntsD s' t' M = C' at *
    simp only [runF, runR, start0, sRet, sSeq, sIf, sSet, sSetL, sPar, sParL, sAsg, sExpr, sSetIx, sApp, sAug, sNx, sBad, sBk, sRetN, thenS, fVar, fC, fOp, fUn, fTst, fNot, fAnd, fOr, fIf, fNil, fCons, fTup, fCall, fAndV, fOrV, fChain, fIsi, fIsi2, isTy, fSl, fNoPart, fPart, fM1, fCallF, fOwnIx, fRow, fOfL, fLstL, gfN, gfT, gfC, gfNil, Out.bind, ofO, opCmp, opIx, opAdd, opSub, unNeg, unNot, opSl, bLen, bInt, List.getElem?_cons_zero, List.getElem?_cons_succ, List.getElem?_nil, List.set_cons_zero, List.set_cons_succ, List.map_cons, List.map_nil, List.length_cons, List.length_nil, List.replicate_succ, List.replicate_zero, List.cons_append, List.nil_append, List.append_nil, if_true, if_false, ite_true, ite_false, reduceIte, Nat.reduceAdd, Nat.reduceSub, Nat.reduceLeDiff, Bool.not_true, Bool.not_false, Bool.false_eq_true, decide_true, decide_false, Option.map_some, Option.bind_some, Nat.zero_add, Nat.le_refl, String.reduceBEq, Bool.or_false, Bool.or_self, Bool.or_true, Bool.false_or, Bool.true_or, en]
  · have e1 := cntsD_get (s := s) (t := t) (n := M) (i := i) (by omega)
    have e2 := cntsD_get (s := s') (t := t') (n := M) (i := i) (by omega)
    have e3 := max2N (WT.cnt s t i) (WT.cnt s' t' i)
    have e4 := min2N (WT.cnt s t i) (WT.cnt s' t' i)
    show (fIf (fTst (fVar 18)) (fCall bMax2 (fCons (fOp opIx (fOp opIx (fVar 8) (fC (.int 0))) (fVar 11)) (fCons (fOp opIx (fOp opIx (fVar 8) (fC (.int 1))) (fVar 11)) fNil))) (fCall bMin2 (fCons (fOp opIx (fOp opIx (fVar 8) (fC (.int 0))) (fVar 11)) (fCons (fOp opIx (fOp opIx (fVar 8) (fC (.int 1))) (fVar 11)) fNil)))) [some (w0), some (.lst row), some (wd s t), some (w3), some (w4), some (wd s' t'), some (.int (L : Int)), some (w7), some (.lst [.lst (cntsD s t M), .lst (cntsD s' t' M)]), none, some (w10), some (.int (i : Int)), some (w12), some (w13), some (w14), some (.int (M : Int)), some (w16), v17, some (.bl most), v19, none, none, none, none] = _
    unfold topE topN
    generalize cntsD s t M = C at *
    generalize cntsD s' t' M = C' at *
    cases most with
    | true => simp only [runF, runR, start0, sRet, sSeq, sIf, sSet, sSetL, sPar, sParL, sAsg, sExpr, sSetIx, sApp, sAug, sNx, sBad, sBk, sRetN, thenS, fVar, fC, fOp, fUn, fTst, fNot, fAnd, fOr, fIf, fNil, fCons, fTup, fCall, fAndV, fOrV, fChain, fIsi, fIsi2, isTy, fSl, fNoPart, fPart, fM1, fCallF, fOwnIx, fRow, fOfL, fLstL, gfN, gfT, gfC, gfNil, Out.bind, ofO, opCmp, opIx, opAdd, opSub, unNeg, unNot, opSl, bLen, bInt, List.getElem?_cons_zero, List.getElem?_cons_succ, List.getElem?_nil, List.set_cons_zero, List.set_cons_succ, List.map_cons, List.map_nil, List.length_cons, List.length_nil, List.replicate_succ, List.replicate_zero, List.cons_append, List.nil_append, List.append_nil, if_true, if_false, ite_true, ite_false, reduceIte, Nat.reduceAdd, Nat.reduceSub, Nat.reduceLeDiff, Bool.not_true, Bool.not_false, Bool.false_eq_true, decide_true, decide_false, Option.map_some, Option.bind_some, Nat.zero_add, Nat.le_refl, String.reduceBEq, Bool.or_false, Bool.or_self, Bool.or_true, Bool.false_or, Bool.true_or, i0, i1, e1, e2, e3]
    | false => simp only [runF, runR, start0, sRet, sSeq, sIf, sSet, sSetL, sPar, sParL, sAsg, sExpr, sSetIx, sApp, sAug, sNx, sBad, sBk, sRetN, thenS, fVar, fC, fOp, fUn, fTst, fNot, fAnd, fOr, fIf, fNil, fCons, fTup, fCall, fAndV, fOrV, fChain, fIsi, fIsi2, isTy, fSl, fNoPart, fPart, fM1, fCallF, fOwnIx, fRow, fOfL, fLstL, gfN, gfT, gfC, gfNil, Out.bind, ofO, opCmp, opIx, opAdd, opSub, unNeg, unNot, opSl, bLen, bInt, List.getElem?_cons_zero, List.getElem?_cons_succ, List.getElem?_nil, List.set_cons_zero, List.set_cons_succ, List.map_cons, List.map_nil, List.length_cons, List.length_nil, List.replicate_succ, List.replicate_zero, List.cons_append, List.nil_append, List.append_nil, if_true, if_false, ite_true, ite_false, reduceIte, Nat.reduceAdd, Nat.reduceSub, Nat.reduceLeDiff, Bool.not_true, Bool.not_false, Bool.false_eq_true, decide_true, decide_false, Option.map_some, Option.bind_some, Nat.zero_add, Nat.le_refl, String.reduceBEq, Bool.or_false, Bool.or_self, Bool.or_true, Bool.false_or, Bool.true_or, i0, i1, e1, e2, e4]
theorem comp_19b {w0 w3 w4 w7 w10 w12 w13 w14 w16 : D} {row : List D} {s t s' t' : List Nat} {L M : Nat} (k : Two s t s' t') (hL : Nat.lcm t.length t'.length = L) (hM : M = 8 + 60 * L) (most : Bool) (v17 : Option D) : fComp [11] (fRng1 (fVar 15)) (gfN 11) fYes (fIf (fTst (fOp (opCmp fun i j => decide (j < i)) (fOp opIx (fVar 19) (fOp opAdd (fVar 11) (fC (.int 1)))) (fOp opIx (fVar 19) (fVar 11)))) (fC (.str [49])) (fC (.str [48]))) [some (w0), some (.lst row), some (wd s t), some (w3), some (w4), some (wd s' t'), some (.int (L : Int)), some (w7), some (.lst [.lst (cntsD s t M), .lst (cntsD s' t' M)]), none, some (w10), none, some (w12), some (w13), some (w14), some (.int (M : Int)), some (w16), v17, some (.bl most), some (.lst (toldD most s t s' t' M)), none, none, none, none] = .ok ((List.range M).map fun i => .str [chX most s t s' t' i]) [some (w0), some (.lst row), some (wd s t), some (w3), some (w4), some (wd s' t'), some (.int (L : Int)), some (w7), some (.lst [.lst (cntsD s t M), .lst (cntsD s' t' M)]), none, some (w10), none, some (w12), some (w13), some (w14), some (.int (M : Int)), some (w16), v17, some (.bl most), some (.lst (toldD most s t s' t' M)), none, none, none, none] := by
  obtain ⟨_, hl⟩ := k.L30 hL
  refine comp_rng (rng1_of (n := M) ?_ (by omega)) (by omega) fun i hi => ⟨[some (w0), some (.lst row), some (wd s t), some (w3), some (w4), some (wd s' t'), some (.int (L : Int)), some (w7), some (.lst [.lst (cntsD s t M), .lst (cntsD s' t' M)]), none, some (w10), some (.int (i : Int)), some (w12), some (w13), some (w14), some (.int (M : Int)), some (w16), v17, some (.bl most), some (.lst (toldD most s t s' t' M)), none, none, none, none], ?_⟩
  · generalize cntsD s t M = C at *
    generalize cntsD s' t' M = C' at *
    generalize toldD most s t s' t' M = T at *
    simp only [runF, runR, start0, sRet, sSeq, sIf, sSet, sSetL, sPar, sParL, sAsg, sExpr, sSetIx, sApp, sAug, sNx, sBad, sBk, sRetN, thenS, fVar, fC, fOp, fUn, fTst, fNot, fAnd, fOr, fIf, fNil, fCons, fTup, fCall, fAndV, fOrV, fChain, fIsi, fIsi2, isTy, fSl, fNoPart, fPart, fM1, fCallF, fOwnIx, fRow, fOfL, fLstL, gfN, gfT, gfC, gfNil, Out.bind, ofO, opCmp, opIx, opAdd, opSub, unNeg, unNot, opSl, bLen, bInt, List.getElem?_cons_zero, List.getElem?_cons_succ, List.getElem?_nil, List.set_cons_zero, List.set_cons_succ, List.map_cons, List.map_nil, List.length_cons, List.length_nil, List.replicate_succ, List.replicate_zero, List.cons_append, List.nil_append, List.append_nil, if_true, if_false, ite_true, ite_false, reduceIte, Nat.reduceAdd, Nat.reduceSub, Nat.reduceLeDiff, Bool.not_true, Bool.not_false, Bool.false_eq_true, decide_true, decide_false, Option.map_some, Option.bind_some, Nat.zero_add, Nat.le_refl, String.reduceBEq, Bool.or_false, Bool.or_self, Bool.or_true, Bool.false_or, Bool.true_or, ]
  · have e1 := toldD_get (most := most) (s := s) (t := t) (s' := s') (t' := t') (n := M) (i := i) (by omega)
    have e2 := toldD_get (most := most) (s := s) (t := t) (s' := s') (t' := t') (n := M) (i := i + 1) (by omega)
    have en : (i : Int) + 1 = ((i + 1 : Nat) : Int) := by omega
    show (fIf (fTst (fOp (opCmp fun i j => decide (j < i)) (fOp opIx (fVar 19) (fOp opAdd (fVar 11) (fC (.int 1)))) (fOp opIx (fVar 19) (fVar 11)))) (fC (.str [49])) (fC (.str [48]))) [some (w0), some (.lst row), some (wd s t), some (w3), some (w4), some (wd s' t'), some (.int (L : Int)), some (w7), some (.lst [.lst (cntsD s t M), .lst (cntsD s' t' M)]), none, some (w10), some (.int (i : Int)), some (w12), some (w13), some (w14), some (.int (M : Int)), some (w16), v17, some (.bl most), some (.lst (toldD most s t s' t' M)), none, none, none, none] = _
    unfold chX
    generalize cntsD s t M = C at *
    generalize cntsD s' t' M = C' at *
    generalize toldD most s t s' t' M = T at *
    generalize topE most s t s' t' (i + 1) = x at *
    generalize topE most s t s' t' i = y at *
    by_cases q : y < x
    · have d1 : decide ((y : Int) < (x : Int)) = true := decide_eq_true (by omega)
      simp only [runF, runR, start0, sRet, sSeq, sIf, sSet, sSetL, sPar, sParL, sAsg, sExpr, sSetIx, sApp, sAug, sNx, sBad, sBk, sRetN, thenS, fVar, fC, fOp, fUn, fTst, fNot, fAnd, fOr, fIf, fNil, fCons, fTup, fCall, fAndV, fOrV, fChain, fIsi, fIsi2, isTy, fSl, fNoPart, fPart, fM1, fCallF, fOwnIx, fRow, fOfL, fLstL, gfN, gfT, gfC, gfNil, Out.bind, ofO, opCmp, opIx, opAdd, opSub, unNeg, unNot, opSl, bLen, bInt, List.getElem?_cons_zero, List.getElem?_cons_succ, List.getElem?_nil, List.set_cons_zero, List.set_cons_succ, List.map_cons, List.map_nil, List.length_cons, List.length_nil, List.replicate_succ, List.replicate_zero, List.cons_append, List.nil_append, List.append_nil, if_true, if_false, ite_true, ite_false, reduceIte, Nat.reduceAdd, Nat.reduceSub, Nat.reduceLeDiff, Bool.not_true, Bool.not_false, Bool.false_eq_true, decide_true, decide_false, Option.map_some, Option.bind_some, Nat.zero_add, Nat.le_refl, String.reduceBEq, Bool.or_false, Bool.or_self, Bool.or_true, Bool.false_or, Bool.true_or, en, e1, e2, d1, if_pos q]
    · have d1 : decide ((y : Int) < (x : Int)) = false := decide_eq_false (by omega)
      simp only [runF, runR, start0, sRet, sSeq, sIf, sSet, sSetL, sPar, sParL, sAsg, sExpr, sSetIx, sApp, sAug, sNx, sBad, sBk, sRetN, thenS, fVar, fC, fOp, fUn, fTst, fNot, fAnd, fOr, fIf, fNil, fCons, fTup, fCall, fAndV, fOrV, fChain, fIsi, fIsi2, isTy, fSl, fNoPart, fPart, fM1, fCallF, fOwnIx, fRow, fOfL, fLstL, gfN, gfT, gfC, gfNil, Out.bind, ofO, opCmp, opIx, opAdd, opSub, unNeg, unNot, opSl, bLen, bInt, List.getElem?_cons_zero, List.getElem?_cons_succ, List.getElem?_nil, List.set_cons_zero, List.set_cons_succ, List.map_cons, List.map_nil, List.length_cons, List.length_nil, List.replicate_succ, List.replicate_zero, List.cons_append, List.nil_append, List.append_nil, if_true, if_false, ite_true, ite_false, reduceIte, Nat.reduceAdd, Nat.reduceSub, Nat.reduceLeDiff, Bool.not_true, Bool.not_false, Bool.false_eq_true, decide_true, decide_false, Option.map_some, Option.bind_some, Nat.zero_add, Nat.le_refl, String.reduceBEq, Bool.or_false, Bool.or_self, Bool.or_true, Bool.false_or, Bool.true_or, en, e1, e2, d1, if_neg q]
theorem body_19 {w0 w3 w4 w7 w10 w12 w13 w14 w16 : D} {row : List D} {s t s' t' : List Nat} {L M : Nat} (k : Two s t s' t') (hL : Nat.lcm t.length t'.length = L) (hM : M = 8 + 60 * L) (most : Bool) (v17 v19 : Option D) : (sSeq (sSet 19 (fOfL (fComp [11] (fRng1 (fOp opAdd (fVar 15) (fC (.int 1)))) (gfN 11) fYes (fIf (fTst (fVar 18)) (fCall bMax2 (fCons (fOp opIx (fOp opIx (fVar 8) (fC (.int 0))) (fVar 11)) (fCons (fOp opIx (fOp opIx (fVar 8) (fC (.int 1))) (fVar 11)) fNil))) (fCall bMin2 (fCons (fOp opIx (fOp opIx (fVar 8) (fC (.int 0))) (fVar 11)) (fCons (fOp opIx (fOp opIx (fVar 8) (fC (.int 1))) (fVar 11)) fNil)))))))
  (sSeq (sSet 17 (fM1 bJoin (fC (.str [])) (fOfL (fComp [11] (fRng1 (fVar 15)) (gfN 11) fYes (fIf (fTst (fOp (opCmp fun i j => decide (j < i)) (fOp opIx (fVar 19) (fOp opAdd (fVar 11) (fC (.int 1)))) (fOp opIx (fVar 19) (fVar 11)))) (fC (.str [49])) (fC (.str [48])))))))
  (sIf (fNot (fTst (fCallF m_law_is_word (fCons (fIf (fTst (fVar 18)) (fCallF m_earliest (fCons (fVar 2) (fCons (fVar 5) fNil))) (fCallF m_latest (fCons (fVar 2) (fCons (fVar 5) fNil)))) (fCons (fVar 17) fNil))))) (sRet (fC (.bl false))) sNx))) [some (w0), some (.lst row), some (wd s t), some (w3), some (w4), some (wd s' t'), some (.int (L : Int)), some (w7), some (.lst [.lst (cntsD s t M), .lst (cntsD s' t' M)]), none, some (w10), none, some (w12), some (w13), some (w14), some (.int (M : Int)), some (w16), v17, some (.bl most), v19, none, none, none, none] = .nx [some (w0), some (.lst row), some (wd s t), some (w3), some (w4), some (wd s' t'), some (.int (L : Int)), some (w7), some (.lst [.lst (cntsD s t M), .lst (cntsD s' t' M)]), none, some (w10), none, some (w12), some (w13), some (w14), some (.int (M : Int)), some (w16), some (.str (chT most s t s' t' M)), some (.bl most), some (.lst (toldD most s t s' t' M)), none, none, none, none] := by
  obtain ⟨_, hl⟩ := k.L30 hL
  have e1 := comp_19a (w0 := w0) (w3 := w3) (w4 := w4) (w7 := w7) (w10 := w10) (w12 := w12) (w13 := w13) (w14 := w14) (w16 := w16) (row := row) k hL hM most v17 v19
  have e2 := comp_19b (w0 := w0) (w3 := w3) (w4 := w4) (w7 := w7) (w10 := w10) (w12 := w12) (w13 := w13) (w14 := w14) (w16 := w16) (row := row) k hL hM most v17
  have e3 : bJoin [.str [], .lst ((List.range M).map fun i => .str [chX most s t s' t' i])] = some (.str (chT most s t s' t' M)) := by
    have := join_one (l := chT most s t s' t' M) (by unfold chT; rw [List.length_map, List.length_range]; omega)
    unfold chT at this ⊢
    rw [List.map_map] at this
    exact this
  have h4 := k.h.up (show 6 ≤ 400 by decide)
  have k4 := k.k.up (show 8 ≤ 400 by decide)
  have l1 := k.h.lt
  have l2 := k.ht
  have hm : t.length * t'.length ≤ 6 * 6 := Nat.mul_le_mul l1 l2
  have lT : (chT most s t s' t' M).length = M := by unfold chT; rw [List.length_map, List.length_range]
  have bT : Bt (chT most s t s' t' M) := fun c hc => by
    obtain ⟨i, _, rfl⟩ := List.mem_map.mp hc
    exact bx_ch most s t s' t' i
  have fin : ∀ {a b : List Nat}, Says 400 (t.length * t'.length) (chX most s t s' t') a b → m_law_is_word [wd a b, .str (chT most s t s' t' M)] = .ok (.bl true) := fun {a b} c =>
    law_is_word_wd (c.wd (by omega) (by omega)) c.nf.prim c.nf.norm bT (by omega) (by
      rw [lT]
      unfold WT.txt chT
      exact List.map_congr_left fun i _ => c.sat i)
  generalize (fComp [11] (fRng1 (fOp opAdd (fVar 15) (fC (.int 1)))) (gfN 11) fYes (fIf (fTst (fVar 18)) (fCall bMax2 (fCons (fOp opIx (fOp opIx (fVar 8) (fC (.int 0))) (fVar 11)) (fCons (fOp opIx (fOp opIx (fVar 8) (fC (.int 1))) (fVar 11)) fNil))) (fCall bMin2 (fCons (fOp opIx (fOp opIx (fVar 8) (fC (.int 0))) (fVar 11)) (fCons (fOp opIx (fOp opIx (fVar 8) (fC (.int 1))) (fVar 11)) fNil))))) = f1 at *
  generalize (fComp [11] (fRng1 (fVar 15)) (gfN 11) fYes (fIf (fTst (fOp (opCmp fun i j => decide (j < i)) (fOp opIx (fVar 19) (fOp opAdd (fVar 11) (fC (.int 1)))) (fOp opIx (fVar 19) (fVar 11)))) (fC (.str [49])) (fC (.str [48])))) = f2 at *
  generalize ((List.range M).map fun i => D.str [chX most s t s' t' i]) = X at *
  generalize toldD most s t s' t' M = T at *
  generalize cntsD s t M = C at *
  generalize cntsD s' t' M = C' at *
  cases most with
  | true =>
    obtain ⟨a, b, c, e4⟩ := earliest_wd h4 k4 (by omega) (ends_two k)
    have e5 := fin c
    generalize chT true s t s' t' M = S at *
    simp only [runF, runR, start0, sRet, sSeq, sIf, sSet, sSetL, sPar, sParL, sAsg, sExpr, sSetIx, sApp, sAug, sNx, sBad, sBk, sRetN, thenS, fVar, fC, fOp, fUn, fTst, fNot, fAnd, fOr, fIf, fNil, fCons, fTup, fCall, fAndV, fOrV, fChain, fIsi, fIsi2, isTy, fSl, fNoPart, fPart, fM1, fCallF, fOwnIx, fRow, fOfL, fLstL, gfN, gfT, gfC, gfNil, Out.bind, ofO, opCmp, opIx, opAdd, opSub, unNeg, unNot, opSl, bLen, bInt, List.getElem?_cons_zero, List.getElem?_cons_succ, List.getElem?_nil, List.set_cons_zero, List.set_cons_succ, List.map_cons, List.map_nil, List.length_cons, List.length_nil, List.replicate_succ, List.replicate_zero, List.cons_append, List.nil_append, List.append_nil, if_true, if_false, ite_true, ite_false, reduceIte, Nat.reduceAdd, Nat.reduceSub, Nat.reduceLeDiff, Bool.not_true, Bool.not_false, Bool.false_eq_true, decide_true, decide_false, Option.map_some, Option.bind_some, Nat.zero_add, Nat.le_refl, String.reduceBEq, Bool.or_false, Bool.or_self, Bool.or_true, Bool.false_or, Bool.true_or, e1, e2, e3, e4, e5, show (17 : Nat) < 24 from by decide, show (19 : Nat) < 24 from by decide]
  | false =>
    obtain ⟨a, b, c, e4⟩ := latest_wd h4 k4 (by omega) (ends_two k)
    have e5 := fin c
    generalize chT false s t s' t' M = S at *
    simp only [runF, runR, start0, sRet, sSeq, sIf, sSet, sSetL, sPar, sParL, sAsg, sExpr, sSetIx, sApp, sAug, sNx, sBad, sBk, sRetN, thenS, fVar, fC, fOp, fUn, fTst, fNot, fAnd, fOr, fIf, fNil, fCons, fTup, fCall, fAndV, fOrV, fChain, fIsi, fIsi2, isTy, fSl, fNoPart, fPart, fM1, fCallF, fOwnIx, fRow, fOfL, fLstL, gfN, gfT, gfC, gfNil, Out.bind, ofO, opCmp, opIx, opAdd, opSub, unNeg, unNot, opSl, bLen, bInt, List.getElem?_cons_zero, List.getElem?_cons_succ, List.getElem?_nil, List.set_cons_zero, List.set_cons_succ, List.map_cons, List.map_nil, List.length_cons, List.length_nil, List.replicate_succ, List.replicate_zero, List.cons_append, List.nil_append, List.append_nil, if_true, if_false, ite_true, ite_false, reduceIte, Nat.reduceAdd, Nat.reduceSub, Nat.reduceLeDiff, Bool.not_true, Bool.not_false, Bool.false_eq_true, decide_true, decide_false, Option.map_some, Option.bind_some, Nat.zero_add, Nat.le_refl, String.reduceBEq, Bool.or_false, Bool.or_self, Bool.or_true, Bool.false_or, Bool.true_or, e1, e2, e3, e4, e5, show (17 : Nat) < 24 from by decide, show (19 : Nat) < 24 from by decide]
theorem lawA_19 {w0 w3 w4 w7 w10 w12 w13 w14 w16 : D} {row : List D} {s t s' t' : List Nat} {L M : Nat} (k : Two s t s' t') (hL : Nat.lcm t.length t'.length = L) (hM : M = 8 + 60 * L) : ∃ v17 v18 v19, F_law_19 [some (w0), some (.lst row), some (wd s t), some (w3), some (w4), some (wd s' t'), some (.int (L : Int)), some (w7), some (.lst [.lst (cntsD s t M), .lst (cntsD s' t' M)]), none, some (w10), none, some (w12), some (w13), some (w14), some (.int (M : Int)), some (w16), none, none, none, none, none, none, none] = .nx [some (w0), some (.lst row), some (wd s t), some (w3), some (w4), some (wd s' t'), some (.int (L : Int)), some (w7), some (.lst [.lst (cntsD s t M), .lst (cntsD s' t' M)]), none, some (w10), none, some (w12), some (w13), some (w14), some (.int (M : Int)), some (w16), v17, v18, v19, none, none, none, none] := by
  have e1 := body_19 (w0 := w0) (w3 := w3) (w4 := w4) (w7 := w7) (w10 := w10) (w12 := w12) (w13 := w13) (w14 := w14) (w16 := w16) (row := row) k hL hM true none none
  have e2 := body_19 (w0 := w0) (w3 := w3) (w4 := w4) (w7 := w7) (w10 := w10) (w12 := w12) (w13 := w13) (w14 := w14) (w16 := w16) (row := row) k hL hM false (some (.str (chT true s t s' t' M))) (some (.lst (toldD true s t s' t' M)))
  refine ⟨_, _, _, Eq.trans ?_ ((loop_step (tgt := gfN 18) (ρ := [some (w0), some (.lst row), some (wd s t), some (w3), some (w4), some (wd s' t'), some (.int (L : Int)), some (w7), some (.lst [.lst (cntsD s t M), .lst (cntsD s' t' M)]), none, some (w10), none, some (w12), some (w13), some (w14), some (.int (M : Int)), some (w16), none, none, none, none, none, none, none]) (d := .bl true) (ds := [.bl false]) rfl e1).trans (loop_step (tgt := gfN 18) (ρ := [some (w0), some (.lst row), some (wd s t), some (w3), some (w4), some (wd s' t'), some (.int (L : Int)), some (w7), some (.lst [.lst (cntsD s t M), .lst (cntsD s' t' M)]), none, some (w10), none, some (w12), some (w13), some (w14), some (.int (M : Int)), some (w16), some (.str (chT true s t s' t' M)), some (.bl true), some (.lst (toldD true s t s' t' M)), none, none, none, none]) (d := .bl false) (ds := []) rfl e2))⟩
  have l2 : 2 ≤ lim := limS (by omega)
  unfold F_law_19
  generalize (sSeq (sSet 19 (fOfL (fComp [11] (fRng1 (fOp opAdd (fVar 15) (fC (.int 1)))) (gfN 11) fYes (fIf (fTst (fVar 18)) (fCall bMax2 (fCons (fOp opIx (fOp opIx (fVar 8) (fC (.int 0))) (fVar 11)) (fCons (fOp opIx (fOp opIx (fVar 8) (fC (.int 1))) (fVar 11)) fNil))) (fCall bMin2 (fCons (fOp opIx (fOp opIx (fVar 8) (fC (.int 0))) (fVar 11)) (fCons (fOp opIx (fOp opIx (fVar 8) (fC (.int 1))) (fVar 11)) fNil)))))))
  (sSeq (sSet 17 (fM1 bJoin (fC (.str [])) (fOfL (fComp [11] (fRng1 (fVar 15)) (gfN 11) fYes (fIf (fTst (fOp (opCmp fun i j => decide (j < i)) (fOp opIx (fVar 19) (fOp opAdd (fVar 11) (fC (.int 1)))) (fOp opIx (fVar 19) (fVar 11)))) (fC (.str [49])) (fC (.str [48])))))))
  (sIf (fNot (fTst (fCallF m_law_is_word (fCons (fIf (fTst (fVar 18)) (fCallF m_earliest (fCons (fVar 2) (fCons (fVar 5) fNil))) (fCallF m_latest (fCons (fVar 2) (fCons (fVar 5) fNil)))) (fCons (fVar 17) fNil))))) (sRet (fC (.bl false))) sNx))) = ff at *
  generalize chT true s t s' t' M = S at *
  generalize toldD true s t s' t' M = T at *
  generalize cntsD s t M = C at *
  generalize cntsD s' t' M = C' at *
  simp only [runF, runR, start0, sRet, sSeq, sIf, sSet, sSetL, sPar, sParL, sAsg, sExpr, sSetIx, sApp, sAug, sNx, sBad, sBk, sRetN, thenS, fVar, fC, fOp, fUn, fTst, fNot, fAnd, fOr, fIf, fNil, fCons, fTup, fCall, fAndV, fOrV, fChain, fIsi, fIsi2, isTy, fSl, fNoPart, fPart, fM1, fCallF, fOwnIx, fRow, fOfL, fLstL, gfN, gfT, gfC, gfNil, Out.bind, ofO, opCmp, opIx, opAdd, opSub, unNeg, unNot, opSl, bLen, bInt, List.getElem?_cons_zero, List.getElem?_cons_succ, List.getElem?_nil, List.set_cons_zero, List.set_cons_succ, List.map_cons, List.map_nil, List.length_cons, List.length_nil, List.replicate_succ, List.replicate_zero, List.cons_append, List.nil_append, List.append_nil, if_true, if_false, ite_true, ite_false, reduceIte, Nat.reduceAdd, Nat.reduceSub, Nat.reduceLeDiff, Bool.not_true, Bool.not_false, Bool.false_eq_true, decide_true, decide_false, Option.map_some, Option.bind_some, Nat.zero_add, Nat.le_refl, String.reduceBEq, Bool.or_false, Bool.or_self, Bool.or_true, Bool.false_or, Bool.true_or, sFor, fIt, itemsOf, if_pos l2]
theorem lawA_20 {w0 w3 w4 w7 w10 w12 w13 w14 w16 : D} {v17 v18 v19 : Option D} {row : List D} {s t s' t' : List Nat} {L M : Nat} (k : Two s t s' t') (hL : Nat.lcm t.length t'.length = L) (hM : M = 8 + 60 * L) {ns : List Int} (r : RowOk ns row) : ∃ (p : Nat) (row' : List D), p < 4 ∧ RowOk ns row' ∧ F_law_20 [some (w0), some (.lst row), some (wd s t), some (w3), some (w4), some (wd s' t'), some (.int (L : Int)), some (w7), some (.lst [.lst (cntsD s t M), .lst (cntsD s' t' M)]), none, some (w10), none, some (w12), some (w13), some (w14), some (.int (M : Int)), some (w16), v17, v18, v19, none, none, none, none] = .nx [some (w0), some (.lst row'), some (wd s t), some (w3), some (w4), some (wd s' t'), some (.int (L : Int)), some (w7), some (.lst [.lst (cntsD s t M), .lst (cntsD s' t' M)]), none, some (w10), none, some (w12), some (w13), some (w14), some (.int (M : Int)), some (w16), v17, v18, v19, some (.int (p : Int)), some (.non), none, none] := by
  obtain ⟨p, row', h1, h2, e⟩ := taken_row r (m := 4) (by decide) (by decide)
  have e : m_law_taken row [.int 4] = .ok (.int (p : Int)) row' := e
  refine ⟨p, row', h1, h2, ?_⟩
  unfold F_law_20
  generalize cntsD s t M = C at *
  generalize cntsD s' t' M = C' at *
  simp only [runF, runR, start0, sRet, sSeq, sIf, sSet, sSetL, sPar, sParL, sAsg, sExpr, sSetIx, sApp, sAug, sNx, sBad, sBk, sRetN, thenS, fVar, fC, fOp, fUn, fTst, fNot, fAnd, fOr, fIf, fNil, fCons, fTup, fCall, fAndV, fOrV, fChain, fIsi, fIsi2, isTy, fSl, fNoPart, fPart, fM1, fCallF, fOwnIx, fRow, fOfL, fLstL, gfN, gfT, gfC, gfNil, Out.bind, ofO, opCmp, opIx, opAdd, opSub, unNeg, unNot, opSl, bLen, bInt, List.getElem?_cons_zero, List.getElem?_cons_succ, List.getElem?_nil, List.set_cons_zero, List.set_cons_succ, List.map_cons, List.map_nil, List.length_cons, List.length_nil, List.replicate_succ, List.replicate_zero, List.cons_append, List.nil_append, List.append_nil, if_true, if_false, ite_true, ite_false, reduceIte, Nat.reduceAdd, Nat.reduceSub, Nat.reduceLeDiff, Bool.not_true, Bool.not_false, Bool.false_eq_true, decide_true, decide_false, Option.map_some, Option.bind_some, Nat.zero_add, Nat.le_refl, String.reduceBEq, Bool.or_false, Bool.or_self, Bool.or_true, Bool.false_or, Bool.true_or, e, show (20 : Nat) < 24 from by decide, show (21 : Nat) < 24 from by decide]
/-- the first fault up to a beat -/
def FirstTo (s t s' t' : List Nat) (p : Int) (b : Nat) (d : Option Nat) : Prop := match d with
  | some n => 1 ≤ n ∧ n ≤ b ∧ WT.Flt s t s' t' p n ∧ ∀ m, 1 ≤ m → m < n → ¬ WT.Flt s t s' t' p m
  | none => ∀ m, 1 ≤ m → m ≤ b → ¬ WT.Flt s t s' t' p m
theorem is_fault (s t s' t' : List Nat) (d : Option Nat) : opIs (faultD s t s' t' d) .non = some (.bl d.isNone) := by cases d <;> rfl
theorem isnt_fault (s t s' t' : List Nat) (d : Option Nat) : opIsnt (faultD s t s' t' d) .non = some (.bl d.isSome) := by cases d <;> rfl
theorem body_21 {w0 w3 w4 w7 w10 w12 w13 w14 w16 : D} {v17 v18 v19 : Option D} {row : List D} {s t s' t' : List Nat} {L M : Nat} (k : Two s t s' t') (hL : Nat.lcm t.length t'.length = L) (hM : M = 8 + 60 * L) {p : Nat} {b : Nat} (hb : b < M) {d : Option Nat} (hd : FirstTo s t s' t' p b d) (v22 : Option D) : ∃ d' v22', FirstTo s t s' t' p (b + 1) d' ∧ (sSeq (sSet 22 (fOp opSub (fOp opIx (fOp opIx (fVar 8) (fC (.int 0))) (fVar 11)) (fOp opIx (fOp opIx (fVar 8) (fC (.int 1))) (fVar 11))))
  (sIf (fAnd (fTst (fOp opIs (fVar 21) (fC .non))) (fOr (fTst (fOp (opCmp fun i j => decide (i < j)) (fVar 22) (fC (.int 0)))) (fTst (fOp (opCmp fun i j => decide (j < i)) (fVar 22) (fVar 20))))) (sSet 21 (fTup (fCons (fVar 11) (fCons (fIf (fTst (fOp (opCmp fun i j => decide (i < j)) (fVar 22) (fC (.int 0)))) (fC (.str [119, 97, 110, 116])) (fC (.str [102, 117, 108, 108]))) fNil)))) sNx)) [some (w0), some (.lst row), some (wd s t), some (w3), some (w4), some (wd s' t'), some (.int (L : Int)), some (w7), some (.lst [.lst (cntsD s t M), .lst (cntsD s' t' M)]), none, some (w10), some (.int ((b + 1 : Nat) : Int)), some (w12), some (w13), some (w14), some (.int (M : Int)), some (w16), v17, v18, v19, some (.int (p : Int)), some (faultD s t s' t' d), v22, none] = .nx [some (w0), some (.lst row), some (wd s t), some (w3), some (w4), some (wd s' t'), some (.int (L : Int)), some (w7), some (.lst [.lst (cntsD s t M), .lst (cntsD s' t' M)]), none, some (w10), some (.int ((b + 1 : Nat) : Int)), some (w12), some (w13), some (w14), some (.int (M : Int)), some (w16), v17, v18, v19, some (.int (p : Int)), some (faultD s t s' t' d'), v22', none] := by
  have e1 := cntsD_get (s := s) (t := t) (n := M) (i := b + 1) (by omega)
  have e2 := cntsD_get (s := s') (t := t') (n := M) (i := b + 1) (by omega)
  have eg : ((WT.cnt s t (b + 1) : Nat) : Int) - ((WT.cnt s' t' (b + 1) : Nat) : Int) = WT.G s t s' t' (b + 1) := rfl
  have l2 : 2 ≤ lim := limS (by omega)
  cases d with
  | some n =>
    refine ⟨some n, some (.int (WT.G s t s' t' (b + 1))), ⟨hd.1, by have := hd.2.1; omega, hd.2.2⟩, ?_⟩
    have ei := is_fault s t s' t' (some n)
    rw [Option.isNone_some] at ei
    generalize faultD s t s' t' (some n) = fd at *
    generalize WT.G s t s' t' (b + 1) = g at *
    generalize cntsD s t M = C at *
    generalize cntsD s' t' M = C' at *
    simp only [runF, runR, start0, sRet, sSeq, sIf, sSet, sSetL, sPar, sParL, sAsg, sExpr, sSetIx, sApp, sAug, sNx, sBad, sBk, sRetN, thenS, fVar, fC, fOp, fUn, fTst, fNot, fAnd, fOr, fIf, fNil, fCons, fTup, fCall, fAndV, fOrV, fChain, fIsi, fIsi2, isTy, fSl, fNoPart, fPart, fM1, fCallF, fOwnIx, fRow, fOfL, fLstL, gfN, gfT, gfC, gfNil, Out.bind, ofO, opCmp, opIx, opAdd, opSub, unNeg, unNot, opSl, bLen, bInt, List.getElem?_cons_zero, List.getElem?_cons_succ, List.getElem?_nil, List.set_cons_zero, List.set_cons_succ, List.map_cons, List.map_nil, List.length_cons, List.length_nil, List.replicate_succ, List.replicate_zero, List.cons_append, List.nil_append, List.append_nil, if_true, if_false, ite_true, ite_false, reduceIte, Nat.reduceAdd, Nat.reduceSub, Nat.reduceLeDiff, Bool.not_true, Bool.not_false, Bool.false_eq_true, decide_true, decide_false, Option.map_some, Option.bind_some, Nat.zero_add, Nat.le_refl, String.reduceBEq, Bool.or_false, Bool.or_self, Bool.or_true, Bool.false_or, Bool.true_or, i0, i1, e1, e2, eg, ei, show (22 : Nat) < 24 from by decide]
  | none =>
    have ei : opIs .non .non = some (.bl true) := rfl
    have hf : WT.Flt s t s' t' p (b + 1) ↔ WT.G s t s' t' (b + 1) < 0 ∨ (p : Int) < WT.G s t s' t' (b + 1) := Iff.rfl
    by_cases q : WT.Flt s t s' t' p (b + 1)
    · refine ⟨some (b + 1), some (.int (WT.G s t s' t' (b + 1))), ⟨by omega, by omega, q, fun m m1 m2 => hd m m1 (by omega)⟩, ?_⟩
      rw [hf] at q
      rw [faultD_some]
      show _ = SO.nx [some (w0), some (.lst row), some (wd s t), some (w3), some (w4), some (wd s' t'), some (.int (L : Int)), some (w7), some (.lst [.lst (cntsD s t M), .lst (cntsD s' t' M)]), none, some (w10), some (.int ((b + 1 : Nat) : Int)), some (w12), some (w13), some (w14), some (.int (M : Int)), some (w16), v17, v18, v19, some (.int (p : Int)), some (.tup [.int ((b + 1 : Nat) : Int), .str (if WT.G s t s' t' (b + 1) < 0 then wantS else fullS)]), some (.int (WT.G s t s' t' (b + 1))), none]
      unfold faultD wantS fullS
      generalize WT.G s t s' t' (b + 1) = g at *
      generalize cntsD s t M = C at *
      generalize cntsD s' t' M = C' at *
      by_cases q1 : g < 0
      · simp only [runF, runR, start0, sRet, sSeq, sIf, sSet, sSetL, sPar, sParL, sAsg, sExpr, sSetIx, sApp, sAug, sNx, sBad, sBk, sRetN, thenS, fVar, fC, fOp, fUn, fTst, fNot, fAnd, fOr, fIf, fNil, fCons, fTup, fCall, fAndV, fOrV, fChain, fIsi, fIsi2, isTy, fSl, fNoPart, fPart, fM1, fCallF, fOwnIx, fRow, fOfL, fLstL, gfN, gfT, gfC, gfNil, Out.bind, ofO, opCmp, opIx, opAdd, opSub, unNeg, unNot, opSl, bLen, bInt, List.getElem?_cons_zero, List.getElem?_cons_succ, List.getElem?_nil, List.set_cons_zero, List.set_cons_succ, List.map_cons, List.map_nil, List.length_cons, List.length_nil, List.replicate_succ, List.replicate_zero, List.cons_append, List.nil_append, List.append_nil, if_true, if_false, ite_true, ite_false, reduceIte, Nat.reduceAdd, Nat.reduceSub, Nat.reduceLeDiff, Bool.not_true, Bool.not_false, Bool.false_eq_true, decide_true, decide_false, Option.map_some, Option.bind_some, Nat.zero_add, Nat.le_refl, String.reduceBEq, Bool.or_false, Bool.or_self, Bool.or_true, Bool.false_or, Bool.true_or, i0, i1, e1, e2, eg, ei, decide_eq_true q1, if_pos l2, if_pos q1, show (21 : Nat) < 24 from by decide, show (22 : Nat) < 24 from by decide]
      · have q2 : (p : Int) < g := q.resolve_left q1
        simp only [runF, runR, start0, sRet, sSeq, sIf, sSet, sSetL, sPar, sParL, sAsg, sExpr, sSetIx, sApp, sAug, sNx, sBad, sBk, sRetN, thenS, fVar, fC, fOp, fUn, fTst, fNot, fAnd, fOr, fIf, fNil, fCons, fTup, fCall, fAndV, fOrV, fChain, fIsi, fIsi2, isTy, fSl, fNoPart, fPart, fM1, fCallF, fOwnIx, fRow, fOfL, fLstL, gfN, gfT, gfC, gfNil, Out.bind, ofO, opCmp, opIx, opAdd, opSub, unNeg, unNot, opSl, bLen, bInt, List.getElem?_cons_zero, List.getElem?_cons_succ, List.getElem?_nil, List.set_cons_zero, List.set_cons_succ, List.map_cons, List.map_nil, List.length_cons, List.length_nil, List.replicate_succ, List.replicate_zero, List.cons_append, List.nil_append, List.append_nil, if_true, if_false, ite_true, ite_false, reduceIte, Nat.reduceAdd, Nat.reduceSub, Nat.reduceLeDiff, Bool.not_true, Bool.not_false, Bool.false_eq_true, decide_true, decide_false, Option.map_some, Option.bind_some, Nat.zero_add, Nat.le_refl, String.reduceBEq, Bool.or_false, Bool.or_self, Bool.or_true, Bool.false_or, Bool.true_or, i0, i1, e1, e2, eg, ei, decide_eq_false q1, decide_eq_true q2, if_pos l2, if_neg q1, show (21 : Nat) < 24 from by decide, show (22 : Nat) < 24 from by decide]
    · refine ⟨none, some (.int (WT.G s t s' t' (b + 1))), fun m m1 m2 => ?_, ?_⟩
      · rcases Nat.lt_or_ge b m with y | y
        · rw [show m = b + 1 by omega]
          exact q
        · exact hd m m1 y
      · rw [hf] at q
        have q1 : ¬ WT.G s t s' t' (b + 1) < 0 := fun z => q (.inl z)
        have q2 : ¬ (p : Int) < WT.G s t s' t' (b + 1) := fun z => q (.inr z)
        unfold faultD
        generalize WT.G s t s' t' (b + 1) = g at *
        generalize cntsD s t M = C at *
        generalize cntsD s' t' M = C' at *
        simp only [runF, runR, start0, sRet, sSeq, sIf, sSet, sSetL, sPar, sParL, sAsg, sExpr, sSetIx, sApp, sAug, sNx, sBad, sBk, sRetN, thenS, fVar, fC, fOp, fUn, fTst, fNot, fAnd, fOr, fIf, fNil, fCons, fTup, fCall, fAndV, fOrV, fChain, fIsi, fIsi2, isTy, fSl, fNoPart, fPart, fM1, fCallF, fOwnIx, fRow, fOfL, fLstL, gfN, gfT, gfC, gfNil, Out.bind, ofO, opCmp, opIx, opAdd, opSub, unNeg, unNot, opSl, bLen, bInt, List.getElem?_cons_zero, List.getElem?_cons_succ, List.getElem?_nil, List.set_cons_zero, List.set_cons_succ, List.map_cons, List.map_nil, List.length_cons, List.length_nil, List.replicate_succ, List.replicate_zero, List.cons_append, List.nil_append, List.append_nil, if_true, if_false, ite_true, ite_false, reduceIte, Nat.reduceAdd, Nat.reduceSub, Nat.reduceLeDiff, Bool.not_true, Bool.not_false, Bool.false_eq_true, decide_true, decide_false, Option.map_some, Option.bind_some, Nat.zero_add, Nat.le_refl, String.reduceBEq, Bool.or_false, Bool.or_self, Bool.or_true, Bool.false_or, Bool.true_or, i0, i1, e1, e2, eg, ei, decide_eq_false q1, decide_eq_false q2, show (22 : Nat) < 24 from by decide]
theorem loop_21 {w0 w3 w4 w7 w10 w12 w13 w14 w16 : D} {v17 v18 v19 : Option D} {row : List D} {s t s' t' : List Nat} {L M : Nat} (k : Two s t s' t') (hL : Nat.lcm t.length t'.length = L) (hM : M = 8 + 60 * L) {p : Nat} : ∀ (c b : Nat) (d : Option Nat) (v11 v22 : Option D), b + c ≤ M → FirstTo s t s' t' p b d → ∃ d' v11' v22', FirstTo s t s' t' p (b + c) d' ∧ loopF (gfN 11) (sSeq (sSet 22 (fOp opSub (fOp opIx (fOp opIx (fVar 8) (fC (.int 0))) (fVar 11)) (fOp opIx (fOp opIx (fVar 8) (fC (.int 1))) (fVar 11))))
  (sIf (fAnd (fTst (fOp opIs (fVar 21) (fC .non))) (fOr (fTst (fOp (opCmp fun i j => decide (i < j)) (fVar 22) (fC (.int 0)))) (fTst (fOp (opCmp fun i j => decide (j < i)) (fVar 22) (fVar 20))))) (sSet 21 (fTup (fCons (fVar 11) (fCons (fIf (fTst (fOp (opCmp fun i j => decide (i < j)) (fVar 22) (fC (.int 0)))) (fC (.str [119, 97, 110, 116])) (fC (.str [102, 117, 108, 108]))) fNil)))) sNx)) (numD ((b + 1 : Nat) : Int) c) [some (w0), some (.lst row), some (wd s t), some (w3), some (w4), some (wd s' t'), some (.int (L : Int)), some (w7), some (.lst [.lst (cntsD s t M), .lst (cntsD s' t' M)]), none, some (w10), v11, some (w12), some (w13), some (w14), some (.int (M : Int)), some (w16), v17, v18, v19, some (.int (p : Int)), some (faultD s t s' t' d), v22, none] = .nx [some (w0), some (.lst row), some (wd s t), some (w3), some (w4), some (wd s' t'), some (.int (L : Int)), some (w7), some (.lst [.lst (cntsD s t M), .lst (cntsD s' t' M)]), none, some (w10), v11', some (w12), some (w13), some (w14), some (.int (M : Int)), some (w16), v17, v18, v19, some (.int (p : Int)), some (faultD s t s' t' d'), v22', none]
  | 0, b, d, v11, v22, _, hd => ⟨d, v11, v22, hd, rfl⟩
  | c + 1, b, d, v11, v22, h, hd => by
    obtain ⟨d1, v1, hd1, e1⟩ := body_21 (w0 := w0) (w3 := w3) (w4 := w4) (w7 := w7) (w10 := w10) (w12 := w12) (w13 := w13) (w14 := w14) (w16 := w16) (row := row) (v17 := v17) (v18 := v18) (v19 := v19) k hL hM (p := p) (b := b) (by omega) hd v22
    obtain ⟨d2, v2, v3, hd2, e2⟩ := loop_21 k hL hM (p := p) c (b + 1) d1 (some (.int ((b + 1 : Nat) : Int))) v1 (by omega) hd1
    refine ⟨d2, v2, v3, by rw [show b + (c + 1) = b + 1 + c by omega]; exact hd2, ?_⟩
    have hn : numD ((b + 1 : Nat) : Int) (c + 1) = .int ((b + 1 : Nat) : Int) :: numD ((b + 1 + 1 : Nat) : Int) c := rfl
    rw [hn]
    exact (loop_step rfl e1).trans e2
theorem near {s t s' t' : List Nat} (k : Two s t s' t') {L : Nat} (hL : Nat.lcm t.length t'.length = L) {p : Int} (hp : p ≤ 40) : WT.drf t t' = 0 ∧ max s.length s'.length + Nat.lcm t.length t'.length ≤ 8 + 60 * L ∨ ∃ n, 1 ≤ n ∧ n ≤ 8 + 60 * L ∧ WT.Flt s t s' t' p n := by
  have hs := k.hs
  have hs' := k.k.ls
  by_cases q : WT.drf t t' = 0
  · exact .inl ⟨q, by omega⟩
  · have := WT.fault_near (s := s) (s' := s') k.h.pos k.k.pos (by omega) hs' q hp
    rw [hL] at this
    exact .inr ⟨8 + L * 60, by omega, by omega, this⟩
theorem first_of {s t s' t' : List Nat} (k : Two s t s' t') {L : Nat} (hL : Nat.lcm t.length t'.length = L) {p : Nat} (hp : p < 4) {d : Option Nat} (h : FirstTo s t s' t' p (8 + 60 * L) d) : WT.FirstF s t s' t' p d := by
  cases d with
  | some n => exact .some n h.1 h.2.2.1 h.2.2.2
  | none =>
    rcases near k hL (p := (p : Int)) (by omega) with ⟨q, q2⟩ | ⟨n, n1, n2, n3⟩
    · exact WT.first_none k.h.pos k.k.pos q q2 h
    · exact (h n n1 n2 n3).elim
theorem lawA_21 {w0 w3 w4 w7 w10 w12 w13 w14 w16 : D} {v17 v18 v19 : Option D} {row : List D} {s t s' t' : List Nat} {L M : Nat} (k : Two s t s' t') (hL : Nat.lcm t.length t'.length = L) (hM : M = 8 + 60 * L) {p : Nat} (hp : p < 4) : ∃ d v11 v22, WT.FirstF s t s' t' p d ∧ F_law_21 [some (w0), some (.lst row), some (wd s t), some (w3), some (w4), some (wd s' t'), some (.int (L : Int)), some (w7), some (.lst [.lst (cntsD s t M), .lst (cntsD s' t' M)]), none, some (w10), none, some (w12), some (w13), some (w14), some (.int (M : Int)), some (w16), v17, v18, v19, some (.int (p : Int)), some (.non), none, none] = .nx [some (w0), some (.lst row), some (wd s t), some (w3), some (w4), some (wd s' t'), some (.int (L : Int)), some (w7), some (.lst [.lst (cntsD s t M), .lst (cntsD s' t' M)]), none, some (w10), v11, some (w12), some (w13), some (w14), some (.int (M : Int)), some (w16), v17, v18, v19, some (.int (p : Int)), some (faultD s t s' t' d), v22, none] := by
  obtain ⟨_, hl⟩ := k.L30 hL
  obtain ⟨d, v11, v22, hd, e⟩ := loop_21 (w0 := w0) (w3 := w3) (w4 := w4) (w7 := w7) (w10 := w10) (w12 := w12) (w13 := w13) (w14 := w14) (w16 := w16) (row := row) (v17 := v17) (v18 := v18) (v19 := v19) k hL hM (p := p) M 0 none none none (by omega) (fun m m1 m2 => by omega)
  rw [Nat.zero_add, hM] at hd
  refine ⟨d, v11, v22, first_of k hL hp hd, Eq.trans ?_ e⟩
  have k2 : (1 : Int).natAbs ≤ lim ∧ ((M : Int) + 1).natAbs ≤ lim := ⟨show 1 ≤ 1000000 by omega, show M + 1 ≤ 1000000 by omega⟩
  have k3 : ((M : Int) + 1 - 1).toNat = M := by omega
  unfold F_law_21
  generalize (sSeq (sSet 22 (fOp opSub (fOp opIx (fOp opIx (fVar 8) (fC (.int 0))) (fVar 11)) (fOp opIx (fOp opIx (fVar 8) (fC (.int 1))) (fVar 11))))
  (sIf (fAnd (fTst (fOp opIs (fVar 21) (fC .non))) (fOr (fTst (fOp (opCmp fun i j => decide (i < j)) (fVar 22) (fC (.int 0)))) (fTst (fOp (opCmp fun i j => decide (j < i)) (fVar 22) (fVar 20))))) (sSet 21 (fTup (fCons (fVar 11) (fCons (fIf (fTst (fOp (opCmp fun i j => decide (i < j)) (fVar 22) (fC (.int 0)))) (fC (.str [119, 97, 110, 116])) (fC (.str [102, 117, 108, 108]))) fNil)))) sNx)) = ff at *
  generalize cntsD s t M = C at *
  generalize cntsD s' t' M = C' at *
  simp only [runF, runR, start0, sRet, sSeq, sIf, sSet, sSetL, sPar, sParL, sAsg, sExpr, sSetIx, sApp, sAug, sNx, sBad, sBk, sRetN, thenS, fVar, fC, fOp, fUn, fTst, fNot, fAnd, fOr, fIf, fNil, fCons, fTup, fCall, fAndV, fOrV, fChain, fIsi, fIsi2, isTy, fSl, fNoPart, fPart, fM1, fCallF, fOwnIx, fRow, fOfL, fLstL, gfN, gfT, gfC, gfNil, Out.bind, ofO, opCmp, opIx, opAdd, opSub, unNeg, unNot, opSl, bLen, bInt, List.getElem?_cons_zero, List.getElem?_cons_succ, List.getElem?_nil, List.set_cons_zero, List.set_cons_succ, List.map_cons, List.map_nil, List.length_cons, List.length_nil, List.replicate_succ, List.replicate_zero, List.cons_append, List.nil_append, List.append_nil, if_true, if_false, ite_true, ite_false, reduceIte, Nat.reduceAdd, Nat.reduceSub, Nat.reduceLeDiff, Bool.not_true, Bool.not_false, Bool.false_eq_true, decide_true, decide_false, Option.map_some, Option.bind_some, Nat.zero_add, Nat.le_refl, String.reduceBEq, Bool.or_false, Bool.or_self, Bool.or_true, Bool.false_or, Bool.true_or, sFor, fRng2, if_pos k2, k3]
  rfl
theorem lawA_22 {w0 w3 w4 w7 w10 w12 w13 w14 w16 : D} {v11 v22 v17 v18 v19 : Option D} {p : Nat} {d : Option Nat} {row : List D} {s t s' t' : List Nat} {L M : Nat} (k : Two s t s' t') (hL : Nat.lcm t.length t'.length = L) (hM : M = 8 + 60 * L) (hp : p < 4) (hd : WT.FirstF s t s' t' p d) : F_law_22 [some (w0), some (.lst row), some (wd s t), some (w3), some (w4), some (wd s' t'), some (.int (L : Int)), some (w7), some (.lst [.lst (cntsD s t M), .lst (cntsD s' t' M)]), none, some (w10), v11, some (w12), some (w13), some (w14), some (.int (M : Int)), some (w16), v17, v18, v19, some (.int (p : Int)), some (faultD s t s' t' d), v22, none] = .nx [some (w0), some (.lst row), some (wd s t), some (w3), some (w4), some (wd s' t'), some (.int (L : Int)), some (w7), some (.lst [.lst (cntsD s t M), .lst (cntsD s' t' M)]), none, some (w10), v11, some (w12), some (w13), some (w14), some (.int (M : Int)), some (w16), v17, v18, v19, some (.int (p : Int)), some (faultD s t s' t' d), v22, some (faultD s t s' t' d)] := by
  have h4 := k.h.up (show 6 ≤ 400 by decide)
  have k4 := k.k.up (show 8 ≤ 400 by decide)
  obtain ⟨_, hl⟩ := k.L30 hL
  obtain ⟨d', hd', e⟩ := first_fault_wd h4 k4 (p := (p : Int)) (by omega) (by omega) (near k hL (by omega)) (by omega)
  have : d' = d := hd'.uniq hd
  subst this
  unfold F_law_22
  generalize faultD s t s' t' d' = fd at *
  generalize cntsD s t M = C at *
  generalize cntsD s' t' M = C' at *
  simp only [runF, runR, start0, sRet, sSeq, sIf, sSet, sSetL, sPar, sParL, sAsg, sExpr, sSetIx, sApp, sAug, sNx, sBad, sBk, sRetN, thenS, fVar, fC, fOp, fUn, fTst, fNot, fAnd, fOr, fIf, fNil, fCons, fTup, fCall, fAndV, fOrV, fChain, fIsi, fIsi2, isTy, fSl, fNoPart, fPart, fM1, fCallF, fOwnIx, fRow, fOfL, fLstL, gfN, gfT, gfC, gfNil, Out.bind, ofO, opCmp, opIx, opAdd, opSub, unNeg, unNot, opSl, bLen, bInt, List.getElem?_cons_zero, List.getElem?_cons_succ, List.getElem?_nil, List.set_cons_zero, List.set_cons_succ, List.map_cons, List.map_nil, List.length_cons, List.length_nil, List.replicate_succ, List.replicate_zero, List.cons_append, List.nil_append, List.append_nil, if_true, if_false, ite_true, ite_false, reduceIte, Nat.reduceAdd, Nat.reduceSub, Nat.reduceLeDiff, Bool.not_true, Bool.not_false, Bool.false_eq_true, decide_true, decide_false, Option.map_some, Option.bind_some, Nat.zero_add, Nat.le_refl, String.reduceBEq, Bool.or_false, Bool.or_self, Bool.or_true, Bool.false_or, Bool.true_or, e, show (23 : Nat) < 24 from by decide]
theorem lawA_23 {w0 w3 w4 w7 w10 w12 w13 w14 w16 : D} {v11 v22 v17 v18 v19 : Option D} {p : Nat} {d : Option Nat} {row : List D} {s t s' t' : List Nat} {L M : Nat} (k : Two s t s' t') (hL : Nat.lcm t.length t'.length = L) (hM : M = 8 + 60 * L) (hp : p < 4) (hd : WT.FirstF s t s' t' p d) : F_law_23 [some (w0), some (.lst row), some (wd s t), some (w3), some (w4), some (wd s' t'), some (.int (L : Int)), some (w7), some (.lst [.lst (cntsD s t M), .lst (cntsD s' t' M)]), none, some (w10), v11, some (w12), some (w13), some (w14), some (.int (M : Int)), some (w16), v17, v18, v19, some (.int (p : Int)), some (faultD s t s' t' d), v22, some (faultD s t s' t' d)] = .nx [some (w0), some (.lst row), some (wd s t), some (w3), some (w4), some (wd s' t'), some (.int (L : Int)), some (w7), some (.lst [.lst (cntsD s t M), .lst (cntsD s' t' M)]), none, some (w10), v11, some (w12), some (w13), some (w14), some (.int (M : Int)), some (w16), v17, v18, v19, some (.int (p : Int)), some (faultD s t s' t' d), v22, some (faultD s t s' t' d)] := by
  have e := alike_fault 1 s t s' t' d
  unfold F_law_23
  generalize faultD s t s' t' d = fd at *
  generalize cntsD s t M = C at *
  generalize cntsD s' t' M = C' at *
  simp only [runF, runR, start0, sRet, sSeq, sIf, sSet, sSetL, sPar, sParL, sAsg, sExpr, sSetIx, sApp, sAug, sNx, sBad, sBk, sRetN, thenS, fVar, fC, fOp, fUn, fTst, fNot, fAnd, fOr, fIf, fNil, fCons, fTup, fCall, fAndV, fOrV, fChain, fIsi, fIsi2, isTy, fSl, fNoPart, fPart, fM1, fCallF, fOwnIx, fRow, fOfL, fLstL, gfN, gfT, gfC, gfNil, Out.bind, ofO, opCmp, opIx, opAdd, opSub, unNeg, unNot, opSl, bLen, bInt, List.getElem?_cons_zero, List.getElem?_cons_succ, List.getElem?_nil, List.set_cons_zero, List.set_cons_succ, List.map_cons, List.map_nil, List.length_cons, List.length_nil, List.replicate_succ, List.replicate_zero, List.cons_append, List.nil_append, List.append_nil, if_true, if_false, ite_true, ite_false, reduceIte, Nat.reduceAdd, Nat.reduceSub, Nat.reduceLeDiff, Bool.not_true, Bool.not_false, Bool.false_eq_true, decide_true, decide_false, Option.map_some, Option.bind_some, Nat.zero_add, Nat.le_refl, String.reduceBEq, Bool.or_false, Bool.or_self, Bool.or_true, Bool.false_or, Bool.true_or, e]
theorem end_24 {w0 w3 w4 w7 w10 w12 w16 : D} {v11 v22 v17 v18 v19 : Option D} {p : Nat} {d : Option Nat} {m : Option Int} {b : Bool} {row : List D} {s t s' t' : List Nat} {L M : Nat} (k : Two s t s' t') (hL : Nat.lcm t.length t'.length = L) (hM : M = 8 + 60 * L) (hp : p < 4) (hd : WT.FirstF s t s' t' p d) (g : WT.Gap s t s' t' m) (hb : b = true ↔ Ahead s t s' t') : (sSeq F_law_24 F_law_25) [some (w0), some (.lst row), some (wd s t), some (w3), some (w4), some (wd s' t'), some (.int (L : Int)), some (w7), some (.lst [.lst (cntsD s t M), .lst (cntsD s' t' M)]), none, some (w10), v11, some (w12), some (gapD m), some (.bl b), some (.int (M : Int)), some (w16), v17, v18, v19, some (.int (p : Int)), some (faultD s t s' t' d), v22, some (faultD s t s' t' d)] = .ret (.bl true) [some (w0), some (.lst row), some (wd s t), some (w3), some (w4), some (wd s' t'), some (.int (L : Int)), some (w7), some (.lst [.lst (cntsD s t M), .lst (cntsD s' t' M)]), none, some (w10), v11, some (w12), some (gapD m), some (.bl b), some (.int (M : Int)), some (w16), v17, v18, v19, some (.int (p : Int)), some (faultD s t s' t' d), v22, some (faultD s t s' t' d)] := by
  have h4 := k.h.up (show 6 ≤ 400 by decide)
  have k4 := k.k.up (show 8 ≤ 400 by decide)
  obtain ⟨_, hl⟩ := k.L30 hL
  have hs := k.hs
  have hs' := k.k.ls
  generalize hfd : faultD s t s' t' d = fd
  generalize hC : cntsD s t M = C
  generalize hC' : cntsD s' t' M = C'
  cases m with
  | none =>
    have e1 : opIs (gapD none) .non = some (.bl true) := rfl
    unfold F_law_24 F_law_25
    simp only [runF, runR, start0, sRet, sSeq, sIf, sSet, sSetL, sPar, sParL, sAsg, sExpr, sSetIx, sApp, sAug, sNx, sBad, sBk, sRetN, thenS, fVar, fC, fOp, fUn, fTst, fNot, fAnd, fOr, fIf, fNil, fCons, fTup, fCall, fAndV, fOrV, fChain, fIsi, fIsi2, isTy, fSl, fNoPart, fPart, fM1, fCallF, fOwnIx, fRow, fOfL, fLstL, gfN, gfT, gfC, gfNil, Out.bind, ofO, opCmp, opIx, opAdd, opSub, unNeg, unNot, opSl, bLen, bInt, List.getElem?_cons_zero, List.getElem?_cons_succ, List.getElem?_nil, List.set_cons_zero, List.set_cons_succ, List.map_cons, List.map_nil, List.length_cons, List.length_nil, List.replicate_succ, List.replicate_zero, List.cons_append, List.nil_append, List.append_nil, if_true, if_false, ite_true, ite_false, reduceIte, Nat.reduceAdd, Nat.reduceSub, Nat.reduceLeDiff, Bool.not_true, Bool.not_false, Bool.false_eq_true, decide_true, decide_false, Option.map_some, Option.bind_some, Nat.zero_add, Nat.le_refl, String.reduceBEq, Bool.or_false, Bool.or_self, Bool.or_true, Bool.false_or, Bool.true_or, e1]
  | some m =>
    have e1 : opIs (.int m) .non = some (.bl false) := rfl
    have e0 : gapD (some m) = .int m := rfl
    cases b with
    | false =>
      unfold F_law_24 F_law_25
      simp only [runF, runR, start0, sRet, sSeq, sIf, sSet, sSetL, sPar, sParL, sAsg, sExpr, sSetIx, sApp, sAug, sNx, sBad, sBk, sRetN, thenS, fVar, fC, fOp, fUn, fTst, fNot, fAnd, fOr, fIf, fNil, fCons, fTup, fCall, fAndV, fOrV, fChain, fIsi, fIsi2, isTy, fSl, fNoPart, fPart, fM1, fCallF, fOwnIx, fRow, fOfL, fLstL, gfN, gfT, gfC, gfNil, Out.bind, ofO, opCmp, opIx, opAdd, opSub, unNeg, unNot, opSl, bLen, bInt, List.getElem?_cons_zero, List.getElem?_cons_succ, List.getElem?_nil, List.set_cons_zero, List.set_cons_succ, List.map_cons, List.map_nil, List.length_cons, List.length_nil, List.replicate_succ, List.replicate_zero, List.cons_append, List.nil_append, List.append_nil, if_true, if_false, ite_true, ite_false, reduceIte, Nat.reduceAdd, Nat.reduceSub, Nat.reduceLeDiff, Bool.not_true, Bool.not_false, Bool.false_eq_true, decide_true, decide_false, Option.map_some, Option.bind_some, Nat.zero_add, Nat.le_refl, String.reduceBEq, Bool.or_false, Bool.or_self, Bool.or_true, Bool.false_or, Bool.true_or, e1, e0]
    | true =>
      have ha := hb.mp rfl
      cases g with
      | some _ g1 g2 g3 =>
        have g4 := WT.drf_dom k.h.pos k.k.pos ha
        have g5 : WT.drf t t' = 0 := by omega
        have g0 : 0 ≤ m := g3 0
        have gm : m ≤ 100 := by
          obtain ⟨n, hn⟩ := g2
          obtain ⟨j, j1, j2⟩ := WT.G_bound (s := s) (s' := s') k.h.pos k.k.pos g1 n
          have := WT.cnt_top s t j
          unfold WT.G at *
          omega
        obtain ⟨d1, hd1, e2⟩ := first_fault_wd h4 k4 (p := m) g0 (by omega) (.inl ⟨g5, Nat.le_refl _⟩) (by omega)
        have z1 : d1 = none := hd1.uniq (.none fun n _ z => by
          rcases z with z | z
          · have := ha n
            unfold WT.G at z
            omega
          · have := g3 n
            omega)
        subst z1
        have e3 : opIs (faultD s t s' t' none) .non = some (.bl true) := rfl
        by_cases q : m = 0
        · subst q
          unfold F_law_24 F_law_25
          simp only [runF, runR, start0, sRet, sSeq, sIf, sSet, sSetL, sPar, sParL, sAsg, sExpr, sSetIx, sApp, sAug, sNx, sBad, sBk, sRetN, thenS, fVar, fC, fOp, fUn, fTst, fNot, fAnd, fOr, fIf, fNil, fCons, fTup, fCall, fAndV, fOrV, fChain, fIsi, fIsi2, isTy, fSl, fNoPart, fPart, fM1, fCallF, fOwnIx, fRow, fOfL, fLstL, gfN, gfT, gfC, gfNil, Out.bind, ofO, opCmp, opIx, opAdd, opSub, unNeg, unNot, opSl, bLen, bInt, List.getElem?_cons_zero, List.getElem?_cons_succ, List.getElem?_nil, List.set_cons_zero, List.set_cons_succ, List.map_cons, List.map_nil, List.length_cons, List.length_nil, List.replicate_succ, List.replicate_zero, List.cons_append, List.nil_append, List.append_nil, if_true, if_false, ite_true, ite_false, reduceIte, Nat.reduceAdd, Nat.reduceSub, Nat.reduceLeDiff, Bool.not_true, Bool.not_false, Bool.false_eq_true, decide_true, decide_false, Option.map_some, Option.bind_some, Nat.zero_add, Nat.le_refl, String.reduceBEq, Bool.or_false, Bool.or_self, Bool.or_true, Bool.false_or, Bool.true_or, e1, e0, e2, e3, eqI, beq_self_eq_true]
        · obtain ⟨d2, hd2, e4⟩ := first_fault_wd h4 k4 (p := m - 1) (by omega) (by omega) (.inl ⟨g5, Nat.le_refl _⟩) (by omega)
          have q0 : (m == 0) = false := beq_eq_false_iff_ne.mpr q
          have e5 : opIsnt (faultD s t s' t' d2) .non = some (.bl true) := by
            rw [isnt_fault]
            cases d2 with
            | some _ => rfl
            | none =>
              exfalso
              cases hd2 with
              | none hd2 =>
                obtain ⟨n, hn⟩ := g2
                rcases Nat.eq_zero_or_pos n with y | y
                · rw [y] at hn
                  have : WT.G s t s' t' 0 = 0 := rfl
                  omega
                · exact hd2 n y (.inr (by omega))
          unfold F_law_24 F_law_25
          simp only [runF, runR, start0, sRet, sSeq, sIf, sSet, sSetL, sPar, sParL, sAsg, sExpr, sSetIx, sApp, sAug, sNx, sBad, sBk, sRetN, thenS, fVar, fC, fOp, fUn, fTst, fNot, fAnd, fOr, fIf, fNil, fCons, fTup, fCall, fAndV, fOrV, fChain, fIsi, fIsi2, isTy, fSl, fNoPart, fPart, fM1, fCallF, fOwnIx, fRow, fOfL, fLstL, gfN, gfT, gfC, gfNil, Out.bind, ofO, opCmp, opIx, opAdd, opSub, unNeg, unNot, opSl, bLen, bInt, List.getElem?_cons_zero, List.getElem?_cons_succ, List.getElem?_nil, List.set_cons_zero, List.set_cons_succ, List.map_cons, List.map_nil, List.length_cons, List.length_nil, List.replicate_succ, List.replicate_zero, List.cons_append, List.nil_append, List.append_nil, if_true, if_false, ite_true, ite_false, reduceIte, Nat.reduceAdd, Nat.reduceSub, Nat.reduceLeDiff, Bool.not_true, Bool.not_false, Bool.false_eq_true, decide_true, decide_false, Option.map_some, Option.bind_some, Nat.zero_add, Nat.le_refl, String.reduceBEq, Bool.or_false, Bool.or_self, Bool.or_true, Bool.false_or, Bool.true_or, e1, e0, e2, e3, e4, e5, eqI, q0]
theorem seq_ret {F G : FS} {ρ ρ1 : Rho} (h : F ρ = .nx ρ1) : sSeq F G ρ = G ρ1 := seq_nx h
theorem law_ok (ns : List Int) : m_law [.fl (ns.map .int)] = .ok (.bl true) := by
  have r1 : RowOk ns [.fl (ns.map .int), .int 0, .int 8602, .int 0] := ⟨0, 8602, 0, by decide, rfl⟩
  obtain ⟨s, t, row2, h, hs, r2, e2⟩ := lawA_2 (.fl (ns.map .int)) r1
  obtain ⟨P, p1, p2, p3, e3⟩ := lawA_3 (w0 := .fl (ns.map .int)) (row := row2) h
  obtain ⟨s1, t1, s2, s3, row4, k1, k2, k3, r4, e4⟩ := lawA_4 (w0 := .fl (ns.map .int)) (P := P) h hs r2
  obtain ⟨s5, t5, row5, k5, r5, e5⟩ := lawA_5 (w0 := .fl (ns.map .int)) (P := P) k1 k2 k3 r4
  obtain ⟨s', t', row6, k, r6, e6⟩ := lawA_6 (w0 := .fl (ns.map .int)) (w4 := .lst [wd s1 t1, wd s2 t, wd s3 t]) k5 p1 p2 p3 r5
  obtain ⟨L, hL⟩ : ∃ L, Nat.lcm t.length t'.length = L := ⟨_, rfl⟩
  obtain ⟨N, hN⟩ : ∃ N, N = 8 + 2 * L := ⟨_, rfl⟩
  obtain ⟨M, hM⟩ : ∃ M, M = 8 + 60 * L := ⟨_, rfl⟩
  have e7 := lawA_7 (w0 := .fl (ns.map .int)) (w3 := .lst (P.map signsD)) (w4 := .lst [wd s1 t1, wd s2 t, wd s3 t]) (row := row6) k hL hN
  have e8 := lawA_8 (w0 := .fl (ns.map .int)) (w3 := .lst (P.map signsD)) (w4 := .lst [wd s1 t1, wd s2 t, wd s3 t]) (row := row6) k hL hN
  have e9 := lawA_9 (w0 := .fl (ns.map .int)) (w3 := .lst (P.map signsD)) (w4 := .lst [wd s1 t1, wd s2 t, wd s3 t]) (row := row6) k hL hN
  have e10 := lawA_10 (w0 := .fl (ns.map .int)) (w3 := .lst (P.map signsD)) (w4 := .lst [wd s1 t1, wd s2 t, wd s3 t]) (row := row6) k hL hN
  have e11 := lawA_11 (w0 := .fl (ns.map .int)) (w3 := .lst (P.map signsD)) (w4 := .lst [wd s1 t1, wd s2 t, wd s3 t]) (row := row6) k hL hN
  obtain ⟨d, g, e12⟩ := lawA_12 (w0 := .fl (ns.map .int)) (w3 := .lst (P.map signsD)) (w4 := .lst [wd s1 t1, wd s2 t, wd s3 t]) (row := row6) k hL hN
  obtain ⟨b, hb, e13⟩ := lawA_13 (w0 := .fl (ns.map .int)) (w3 := .lst (P.map signsD)) (w4 := .lst [wd s1 t1, wd s2 t, wd s3 t]) (row := row6) k hL hN (d := d)
  have e14 := lawA_14 (w0 := .fl (ns.map .int)) (w3 := .lst (P.map signsD)) (w4 := .lst [wd s1 t1, wd s2 t, wd s3 t]) (row := row6) k hL hN g hb
  have e15 := lawA_15 (w0 := .fl (ns.map .int)) (w3 := .lst (P.map signsD)) (w4 := .lst [wd s1 t1, wd s2 t, wd s3 t]) (row := row6) k hL hN g hb
  have e16 := lawA_16 (w0 := .fl (ns.map .int)) (w3 := .lst (P.map signsD)) (w4 := .lst [wd s1 t1, wd s2 t, wd s3 t]) (w7 := .int (N : Int)) (w8 := .lst [.lst (cntsD s t N), .lst (cntsD s' t' N)]) (w10 := .lst (apartD s t s' t' N)) (w12 := .int (WT.drf t t')) (w13 := gapD d) (w14 := .bl b) (row := row6) k hL hM
  have e17 := lawA_17 (w0 := .fl (ns.map .int)) (w3 := .lst (P.map signsD)) (w4 := .lst [wd s1 t1, wd s2 t, wd s3 t]) (w7 := .int (N : Int)) (w8 := .lst [.lst (cntsD s t N), .lst (cntsD s' t' N)]) (w10 := .lst (apartD s t s' t' N)) (w12 := .int (WT.drf t t')) (w13 := gapD d) (w14 := .bl b) (row := row6) k hL hM
  have e18 := lawA_18 (w0 := .fl (ns.map .int)) (w3 := .lst (P.map signsD)) (w4 := .lst [wd s1 t1, wd s2 t, wd s3 t]) (w7 := .int (N : Int)) (w8 := .lst [.lst (cntsD s t N), .lst (cntsD s' t' N)]) (w10 := .lst (apartD s t s' t' N)) (w12 := .int (WT.drf t t')) (w13 := gapD d) (w14 := .bl b) (row := row6) k hL hM
  obtain ⟨v17, v18, v19, e19⟩ := lawA_19 (w0 := .fl (ns.map .int)) (w3 := .lst (P.map signsD)) (w4 := .lst [wd s1 t1, wd s2 t, wd s3 t]) (w7 := .int (N : Int)) (w10 := .lst (apartD s t s' t' N)) (w12 := .int (WT.drf t t')) (w13 := gapD d) (w14 := .bl b) (w16 := .lst [.str (WT.txt s t M), .str (WT.txt s' t' M)]) (row := row6) k hL hM
  obtain ⟨p, row7, hp, r7, e20⟩ := lawA_20 (w0 := .fl (ns.map .int)) (w3 := .lst (P.map signsD)) (w4 := .lst [wd s1 t1, wd s2 t, wd s3 t]) (w7 := .int (N : Int)) (w10 := .lst (apartD s t s' t' N)) (w12 := .int (WT.drf t t')) (w13 := gapD d) (w14 := .bl b) (w16 := .lst [.str (WT.txt s t M), .str (WT.txt s' t' M)]) (v17 := v17) (v18 := v18) (v19 := v19) k hL hM r6
  obtain ⟨fd, v11, v22, hd, e21⟩ := lawA_21 (w0 := .fl (ns.map .int)) (w3 := .lst (P.map signsD)) (w4 := .lst [wd s1 t1, wd s2 t, wd s3 t]) (w7 := .int (N : Int)) (w10 := .lst (apartD s t s' t' N)) (w12 := .int (WT.drf t t')) (w13 := gapD d) (w14 := .bl b) (w16 := .lst [.str (WT.txt s t M), .str (WT.txt s' t' M)]) (v17 := v17) (v18 := v18) (v19 := v19) (row := row7) k hL hM hp
  have e22 := lawA_22 (w0 := .fl (ns.map .int)) (w3 := .lst (P.map signsD)) (w4 := .lst [wd s1 t1, wd s2 t, wd s3 t]) (w7 := .int (N : Int)) (w10 := .lst (apartD s t s' t' N)) (w12 := .int (WT.drf t t')) (w13 := gapD d) (w14 := .bl b) (w16 := .lst [.str (WT.txt s t M), .str (WT.txt s' t' M)]) (v17 := v17) (v18 := v18) (v19 := v19) (v11 := v11) (v22 := v22) (row := row7) k hL hM hp hd
  have e23 := lawA_23 (w0 := .fl (ns.map .int)) (w3 := .lst (P.map signsD)) (w4 := .lst [wd s1 t1, wd s2 t, wd s3 t]) (w7 := .int (N : Int)) (w10 := .lst (apartD s t s' t' N)) (w12 := .int (WT.drf t t')) (w13 := gapD d) (w14 := .bl b) (w16 := .lst [.str (WT.txt s t M), .str (WT.txt s' t' M)]) (v17 := v17) (v18 := v18) (v19 := v19) (v11 := v11) (v22 := v22) (row := row7) k hL hM hp hd
  have e24 := end_24 (w0 := .fl (ns.map .int)) (w3 := .lst (P.map signsD)) (w4 := .lst [wd s1 t1, wd s2 t, wd s3 t]) (w7 := .int (N : Int)) (w10 := .lst (apartD s t s' t' N)) (w12 := .int (WT.drf t t')) (w16 := .lst [.str (WT.txt s t M), .str (WT.txt s' t' M)]) (v17 := v17) (v18 := v18) (v19 := v19) (v11 := v11) (v22 := v22) (row := row7) k hL hM hp hd g hb
  refine runF_ret (Eq.trans ?_ e24)
  show F_law [some (.fl (ns.map .int)), none, none, none, none, none, none, none, none, none, none, none, none, none, none, none, none, none, none, none, none, none, none, none] = _
  unfold F_law
  rw [seq_nx (lawA_1 _), seq_nx e2, seq_nx e3, seq_nx e4, seq_nx e5, seq_nx e6, seq_nx e7, seq_nx e8, seq_nx e9, seq_nx e10, seq_nx e11, seq_nx e12, seq_nx e13, seq_nx e14, seq_nx e15, seq_nx e16, seq_nx e17, seq_nx e18, seq_nx e19, seq_nx e20, seq_nx e21, seq_nx e22, seq_nx e23]
end Lw

namespace Lw
open PySem PySem.Spec PyProof.Rows L2 DL
def d_within : He.DefD := ⟨("within", none), "within", "within", defArgs s_within, defBody s_within, defScope s_within, [], []⟩
def d_need_number : He.DefD := ⟨("need_number", none), "need_number", "need_number", defArgs s_need_number, defBody s_need_number, defScope s_need_number, [], []⟩
def d_is_bits : He.DefD := ⟨("is_bits", none), "is_bits", "is_bits", defArgs s_is_bits, defBody s_is_bits, defScope s_is_bits, [], []⟩
def d_is_word : He.DefD := ⟨("is_word", none), "is_word", "is_word", defArgs s_is_word, defBody s_is_word, defScope s_is_word, [], []⟩
def d_need_word : He.DefD := ⟨("need_word", none), "need_word", "need_word", defArgs s_need_word, defBody s_need_word, defScope s_need_word, [], []⟩
def d_shortest : He.DefD := ⟨("shortest", none), "shortest", "shortest", defArgs s_shortest, defBody s_shortest, defScope s_shortest, [], []⟩
def d_normal_of : He.DefD := ⟨("normal_of", none), "normal_of", "normal_of", defArgs s_normal_of, defBody s_normal_of, defScope s_normal_of, [], []⟩
def d_made : He.DefD := ⟨("made", none), "made", "made", defArgs s_made, defBody s_made, defScope s_made, [], []⟩
def d_ones_of : He.DefD := ⟨("ones_of", none), "ones_of", "ones_of", defArgs s_ones_of, defBody s_ones_of, defScope s_ones_of, [], []⟩
def d_total_of : He.DefD := ⟨("total_of", none), "total_of", "total_of", defArgs s_total_of, defBody s_total_of, defScope s_total_of, [], []⟩
def d_lcm_of : He.DefD := ⟨("lcm_of", none), "lcm_of", "lcm_of", defArgs s_lcm_of, defBody s_lcm_of, defScope s_lcm_of, [], []⟩
def d_from_bits : He.DefD := ⟨("from_bits", none), "from_bits", "from_bits", defArgs s_from_bits, defBody s_from_bits, defScope s_from_bits, [], []⟩
def d_paired : He.DefD := ⟨("paired", none), "paired", "paired", defArgs s_paired, defBody s_paired, defScope s_paired, [], []⟩
def d_need_words : He.DefD := ⟨("need_words", none), "need_words", "need_words", defArgs s_need_words, defBody s_need_words, defScope s_need_words, [], []⟩
def d_drift : He.DefD := ⟨("drift", none), "drift", "drift", defArgs s_drift, defBody s_drift, defScope s_drift, [], []⟩
def d_gap_of : He.DefD := ⟨("gap_of", none), "gap_of", "gap_of", defArgs s_gap_of, defBody s_gap_of, defScope s_gap_of, [], []⟩
def d_is_ahead : He.DefD := ⟨("is_ahead", none), "is_ahead", "is_ahead", defArgs s_is_ahead, defBody s_is_ahead, defScope s_is_ahead, [], []⟩
def d_chosen : He.DefD := ⟨("chosen", none), "chosen", "chosen", defArgs s_chosen, defBody s_chosen, defScope s_chosen, [], []⟩
def d_told_count : He.DefD := ⟨("told_count", none), "told_count", "told_count", defArgs s_told_count, defBody s_told_count, defScope s_told_count, [], []⟩
def d_gap : He.DefD := ⟨("gap", none), "gap", "gap", defArgs s_gap, defBody s_gap, defScope s_gap, [], []⟩
def d_is_earlier : He.DefD := ⟨("is_earlier", none), "is_earlier", "is_earlier", defArgs s_is_earlier, defBody s_is_earlier, defScope s_is_earlier, [], []⟩
def d_earliest : He.DefD := ⟨("earliest", none), "earliest", "earliest", defArgs s_earliest, defBody s_earliest, defScope s_earliest, [], []⟩
def d_latest : He.DefD := ⟨("latest", none), "latest", "latest", defArgs s_latest, defBody s_latest, defScope s_latest, [], []⟩
def d_size : He.DefD := ⟨("size", none), "size", "size", defArgs s_size, defBody s_size, defScope s_size, [], []⟩
def d_fault_of : He.DefD := ⟨("fault_of", none), "fault_of", "fault_of", defArgs s_fault_of, defBody s_fault_of, defScope s_fault_of, [], []⟩
def d_first_fault : He.DefD := ⟨("first_fault", none), "first_fault", "first_fault", defArgs s_first_fault, defBody s_first_fault, defScope s_first_fault, [], []⟩
def d_law_orders : He.DefD := ⟨("_law_orders", none), "_law_orders", "_law_orders", defArgs s_law_orders, defBody s_law_orders, defScope s_law_orders, [], []⟩
def d_law_taken : He.DefD := ⟨("_law_taken", none), "_law_taken", "_law_taken", defArgs s_law_taken, defBody s_law_taken, defScope s_law_taken, [], []⟩
def d_law_word : He.DefD := ⟨("_law_word", none), "_law_word", "_law_word", defArgs s_law_word, defBody s_law_word, defScope s_law_word, [], []⟩
def d_law_perms : He.DefD := ⟨("_law_perms", none), "_law_perms", "_law_perms", defArgs s_law_perms, defBody s_law_perms, defScope s_law_perms, [], []⟩
def d_law_pick : He.DefD := ⟨("_law_pick", none), "_law_pick", "_law_pick", defArgs s_law_pick, defBody s_law_pick, defScope s_law_pick, [], []⟩
def d_law_gcd : He.DefD := ⟨("_law_gcd", none), "_law_gcd", "_law_gcd", defArgs s_law_gcd, defBody s_law_gcd, defScope s_law_gcd, [], []⟩
def d_law_lcm : He.DefD := ⟨("_law_lcm", none), "_law_lcm", "_law_lcm", defArgs s_law_lcm, defBody s_law_lcm, defScope s_law_lcm, [], []⟩
def d_law_sums : He.DefD := ⟨("_law_sums", none), "_law_sums", "_law_sums", defArgs s_law_sums, defBody s_law_sums, defScope s_law_sums, [], []⟩
def d_law_bits : He.DefD := ⟨("_law_bits", none), "_law_bits", "_law_bits", defArgs s_law_bits, defBody s_law_bits, defScope s_law_bits, [], []⟩
def d_law_alike : He.DefD := ⟨("_law_alike", none), "_law_alike", "_law_alike", defArgs s_law_alike, defBody s_law_alike, defScope s_law_alike, [], []⟩
def d_law_is_normal : He.DefD := ⟨("_law_is_normal", none), "_law_is_normal", "_law_is_normal", defArgs s_law_is_normal, defBody s_law_is_normal, defScope s_law_is_normal, [], []⟩
def d_law_is_word : He.DefD := ⟨("_law_is_word", none), "_law_is_word", "_law_is_word", defArgs s_law_is_word, defBody s_law_is_word, defScope s_law_is_word, [], []⟩
def d_law : He.DefD := ⟨("law", none), "law", "law", defArgs s_law, defBody s_law, defScope s_law, [], []⟩
def fn0 : List He.DefD := [d_within, d_need_number, d_is_bits, d_is_word, d_need_word, d_shortest, d_normal_of, d_made, d_ones_of, d_total_of, d_lcm_of, d_from_bits, d_paired, d_need_words, d_drift, d_gap_of, d_is_ahead, d_chosen, d_told_count, d_gap]
def fn1 : List He.DefD := [d_is_earlier, d_earliest, d_latest, d_size, d_fault_of, d_first_fault, d_law_orders, d_law_taken, d_law_word, d_law_perms, d_law_pick, d_law_gcd, d_law_lcm, d_law_sums, d_law_bits, d_law_alike, d_law_is_normal, d_law_is_word, d_law]
def fnL : List He.DefD := fn0 ++ fn1
def fa0 : List He.Fa := [.glo "within", .glo "need_number", .glo "is_bits", .glo "is_word", .glo "need_word", .glo "shortest", .glo "normal_of", .glo "made", .glo "ones_of", .glo "total_of", .glo "lcm_of", .glo "from_bits", .glo "paired", .glo "need_words", .glo "drift", .glo "gap_of", .glo "is_ahead", .glo "chosen", .glo "told_count", .glo "gap"]
def fa1 : List He.Fa := [.glo "is_earlier", .glo "earliest", .glo "latest", .glo "size", .glo "fault_of", .glo "first_fault", .glo "_law_orders", .glo "_law_taken", .glo "_law_word", .glo "_law_perms", .glo "_law_pick", .glo "_law_gcd", .glo "_law_lcm", .glo "_law_sums", .glo "_law_bits", .glo "_law_alike", .glo "_law_is_normal", .glo "_law_is_word", .glo "law", .free "all"]
def fa2 : List He.Fa := [.free "bool", .free "int", .free "isinstance", .free "len", .free "list", .free "max", .free "min", .free "range", .free "str", .free "tuple", .int "MOST_BITS" 400]
def faL : List He.Fa := fa0 ++ fa1 ++ fa2
abbrev rowL : PySem.W.OpenRow := PySem.W.OpenLaw.row PySem.Challenge.rw_beatwords_k02_whole_counts
def gcdB (K : PySem.W.Frag) : Bool := He.eqO (PySem.W.nsIn K mainGlobals "gcd") (some (some (.builtin "math.gcd")))
def moreB (K : PySem.W.Frag) : Bool := gcdB K
def lookG (g : Addr → Option Obj) : He.AlD × Bool := (fun K => (He.obsD faL fnL K, moreB K)) (He.frG g (He.asD g 5))
def hkL : PySem.W.Hook where
  α := He.AlD × Bool
  obs := fun s => lookG s.heap.get?
  val := fun _ => (He.valD fnL, true)
  says := fun _ h => ∃ K : PySem.W.Frag, K.In h ∧ He.SaysD faL fnL K ∧ moreB K = true
  of := fun _ _ e => ⟨_, He.frG_in, congrArg Prod.fst e, congrArg Prod.snd e⟩
  keeps := fun _ _ _ ⟨K, h1, h2, h3⟩ k => ⟨K, PySem.W.Frag.In.keeps h1 k, h2, h3⟩
def obL (s : PySem.W.SharedT) : He.AlD × Bool := lookG (HandSHeadRun.getT s)
theorem obL_eq (s : PySem.W.SharedT) : obL s = hkL.obs s.abs := by
  have e : HandSHeadRun.getT s = s.abs.heap.get? := funext (HandSHeadRun.getT_eq s)
  unfold obL
  rw [e]
  rfl
def nm0 : List PySem.Str := ["gcd", "BeatError", "BadWord", "BadNumber", "TooMany", "MOST_BITS", "within", "need_number", "is_bits", "is_word", "need_word", "shortest", "normal_of", "made", "ones_of", "total_of", "lcm_of", "from_bits", "paired", "need_words"]
def nm1 : List PySem.Str := ["drift", "gap_of", "is_ahead", "chosen", "told_count", "gap", "is_earlier", "earliest", "latest", "size", "fault_of", "first_fault", "_law_orders", "_law_taken", "_law_word", "_law_perms", "_law_pick", "_law_gcd", "_law_lcm", "_law_sums"]
def nm2 : List PySem.Str := ["_law_bits", "_law_alike", "_law_is_normal", "_law_is_word"]
def nmL : List PySem.Str := nm0 ++ nm1 ++ nm2
theorem runL (w : World) : HandSHeadRun.RunEqI rowL (PySem.W.view rowL.prog [48]) hkL obL 9000 nmL w := by
  unfold HandSHeadRun.RunEqI
  kernel_rfl
theorem factsL {K : PySem.W.Frag} {h : Heap} {mg : Str → Option Value} (X : K.In h) (G : h.Ns mainGlobals mg) (c : He.SaysD faL fnL K) (b : moreB K = true) : Facts K mg where
  f_within := by
    obtain ⟨fd, F⟩ := c.def_ 0 (d := d_within) rfl
    exact ⟨_, fd, F, He.glo_ok X G (c.fact 0 (f := .glo "within") rfl)⟩
  f_need_number := by
    obtain ⟨fd, F⟩ := c.def_ 1 (d := d_need_number) rfl
    exact ⟨_, fd, F, He.glo_ok X G (c.fact 1 (f := .glo "need_number") rfl)⟩
  f_is_bits := by
    obtain ⟨fd, F⟩ := c.def_ 2 (d := d_is_bits) rfl
    exact ⟨_, fd, F, He.glo_ok X G (c.fact 2 (f := .glo "is_bits") rfl)⟩
  f_is_word := by
    obtain ⟨fd, F⟩ := c.def_ 3 (d := d_is_word) rfl
    exact ⟨_, fd, F, He.glo_ok X G (c.fact 3 (f := .glo "is_word") rfl)⟩
  f_need_word := by
    obtain ⟨fd, F⟩ := c.def_ 4 (d := d_need_word) rfl
    exact ⟨_, fd, F, He.glo_ok X G (c.fact 4 (f := .glo "need_word") rfl)⟩
  f_shortest := by
    obtain ⟨fd, F⟩ := c.def_ 5 (d := d_shortest) rfl
    exact ⟨_, fd, F, He.glo_ok X G (c.fact 5 (f := .glo "shortest") rfl)⟩
  f_normal_of := by
    obtain ⟨fd, F⟩ := c.def_ 6 (d := d_normal_of) rfl
    exact ⟨_, fd, F, He.glo_ok X G (c.fact 6 (f := .glo "normal_of") rfl)⟩
  f_made := by
    obtain ⟨fd, F⟩ := c.def_ 7 (d := d_made) rfl
    exact ⟨_, fd, F, He.glo_ok X G (c.fact 7 (f := .glo "made") rfl)⟩
  f_ones_of := by
    obtain ⟨fd, F⟩ := c.def_ 8 (d := d_ones_of) rfl
    exact ⟨_, fd, F, He.glo_ok X G (c.fact 8 (f := .glo "ones_of") rfl)⟩
  f_total_of := by
    obtain ⟨fd, F⟩ := c.def_ 9 (d := d_total_of) rfl
    exact ⟨_, fd, F, He.glo_ok X G (c.fact 9 (f := .glo "total_of") rfl)⟩
  f_lcm_of := by
    obtain ⟨fd, F⟩ := c.def_ 10 (d := d_lcm_of) rfl
    exact ⟨_, fd, F, He.glo_ok X G (c.fact 10 (f := .glo "lcm_of") rfl)⟩
  f_from_bits := by
    obtain ⟨fd, F⟩ := c.def_ 11 (d := d_from_bits) rfl
    exact ⟨_, fd, F, He.glo_ok X G (c.fact 11 (f := .glo "from_bits") rfl)⟩
  f_paired := by
    obtain ⟨fd, F⟩ := c.def_ 12 (d := d_paired) rfl
    exact ⟨_, fd, F, He.glo_ok X G (c.fact 12 (f := .glo "paired") rfl)⟩
  f_need_words := by
    obtain ⟨fd, F⟩ := c.def_ 13 (d := d_need_words) rfl
    exact ⟨_, fd, F, He.glo_ok X G (c.fact 13 (f := .glo "need_words") rfl)⟩
  f_drift := by
    obtain ⟨fd, F⟩ := c.def_ 14 (d := d_drift) rfl
    exact ⟨_, fd, F, He.glo_ok X G (c.fact 14 (f := .glo "drift") rfl)⟩
  f_gap_of := by
    obtain ⟨fd, F⟩ := c.def_ 15 (d := d_gap_of) rfl
    exact ⟨_, fd, F, He.glo_ok X G (c.fact 15 (f := .glo "gap_of") rfl)⟩
  f_is_ahead := by
    obtain ⟨fd, F⟩ := c.def_ 16 (d := d_is_ahead) rfl
    exact ⟨_, fd, F, He.glo_ok X G (c.fact 16 (f := .glo "is_ahead") rfl)⟩
  f_chosen := by
    obtain ⟨fd, F⟩ := c.def_ 17 (d := d_chosen) rfl
    exact ⟨_, fd, F, He.glo_ok X G (c.fact 17 (f := .glo "chosen") rfl)⟩
  f_told_count := by
    obtain ⟨fd, F⟩ := c.def_ 18 (d := d_told_count) rfl
    exact ⟨_, fd, F, He.glo_ok X G (c.fact 18 (f := .glo "told_count") rfl)⟩
  f_gap := by
    obtain ⟨fd, F⟩ := c.def_ 19 (d := d_gap) rfl
    exact ⟨_, fd, F, He.glo_ok X G (c.fact 19 (f := .glo "gap") rfl)⟩
  f_is_earlier := by
    obtain ⟨fd, F⟩ := c.def_ 20 (d := d_is_earlier) rfl
    exact ⟨_, fd, F, He.glo_ok X G (c.fact 20 (f := .glo "is_earlier") rfl)⟩
  f_earliest := by
    obtain ⟨fd, F⟩ := c.def_ 21 (d := d_earliest) rfl
    exact ⟨_, fd, F, He.glo_ok X G (c.fact 21 (f := .glo "earliest") rfl)⟩
  f_latest := by
    obtain ⟨fd, F⟩ := c.def_ 22 (d := d_latest) rfl
    exact ⟨_, fd, F, He.glo_ok X G (c.fact 22 (f := .glo "latest") rfl)⟩
  f_size := by
    obtain ⟨fd, F⟩ := c.def_ 23 (d := d_size) rfl
    exact ⟨_, fd, F, He.glo_ok X G (c.fact 23 (f := .glo "size") rfl)⟩
  f_fault_of := by
    obtain ⟨fd, F⟩ := c.def_ 24 (d := d_fault_of) rfl
    exact ⟨_, fd, F, He.glo_ok X G (c.fact 24 (f := .glo "fault_of") rfl)⟩
  f_first_fault := by
    obtain ⟨fd, F⟩ := c.def_ 25 (d := d_first_fault) rfl
    exact ⟨_, fd, F, He.glo_ok X G (c.fact 25 (f := .glo "first_fault") rfl)⟩
  f_law_orders := by
    obtain ⟨fd, F⟩ := c.def_ 26 (d := d_law_orders) rfl
    exact ⟨_, fd, F, He.glo_ok X G (c.fact 26 (f := .glo "_law_orders") rfl)⟩
  f_law_taken := by
    obtain ⟨fd, F⟩ := c.def_ 27 (d := d_law_taken) rfl
    exact ⟨_, fd, F, He.glo_ok X G (c.fact 27 (f := .glo "_law_taken") rfl)⟩
  f_law_word := by
    obtain ⟨fd, F⟩ := c.def_ 28 (d := d_law_word) rfl
    exact ⟨_, fd, F, He.glo_ok X G (c.fact 28 (f := .glo "_law_word") rfl)⟩
  f_law_perms := by
    obtain ⟨fd, F⟩ := c.def_ 29 (d := d_law_perms) rfl
    exact ⟨_, fd, F, He.glo_ok X G (c.fact 29 (f := .glo "_law_perms") rfl)⟩
  f_law_pick := by
    obtain ⟨fd, F⟩ := c.def_ 30 (d := d_law_pick) rfl
    exact ⟨_, fd, F, He.glo_ok X G (c.fact 30 (f := .glo "_law_pick") rfl)⟩
  f_law_gcd := by
    obtain ⟨fd, F⟩ := c.def_ 31 (d := d_law_gcd) rfl
    exact ⟨_, fd, F, He.glo_ok X G (c.fact 31 (f := .glo "_law_gcd") rfl)⟩
  f_law_lcm := by
    obtain ⟨fd, F⟩ := c.def_ 32 (d := d_law_lcm) rfl
    exact ⟨_, fd, F, He.glo_ok X G (c.fact 32 (f := .glo "_law_lcm") rfl)⟩
  f_law_sums := by
    obtain ⟨fd, F⟩ := c.def_ 33 (d := d_law_sums) rfl
    exact ⟨_, fd, F, He.glo_ok X G (c.fact 33 (f := .glo "_law_sums") rfl)⟩
  f_law_bits := by
    obtain ⟨fd, F⟩ := c.def_ 34 (d := d_law_bits) rfl
    exact ⟨_, fd, F, He.glo_ok X G (c.fact 34 (f := .glo "_law_bits") rfl)⟩
  f_law_alike := by
    obtain ⟨fd, F⟩ := c.def_ 35 (d := d_law_alike) rfl
    exact ⟨_, fd, F, He.glo_ok X G (c.fact 35 (f := .glo "_law_alike") rfl)⟩
  f_law_is_normal := by
    obtain ⟨fd, F⟩ := c.def_ 36 (d := d_law_is_normal) rfl
    exact ⟨_, fd, F, He.glo_ok X G (c.fact 36 (f := .glo "_law_is_normal") rfl)⟩
  f_law_is_word := by
    obtain ⟨fd, F⟩ := c.def_ 37 (d := d_law_is_word) rfl
    exact ⟨_, fd, F, He.glo_ok X G (c.fact 37 (f := .glo "_law_is_word") rfl)⟩
  f_law := by
    obtain ⟨fd, F⟩ := c.def_ 38 (d := d_law) rfl
    exact ⟨_, fd, F, He.glo_ok X G (c.fact 38 (f := .glo "law") rfl)⟩
  b_all := He.free_ok X G (c.fact 39 (f := .free "all") rfl)
  b_bool := He.free_ok X G (c.fact 40 (f := .free "bool") rfl)
  b_int := He.free_ok X G (c.fact 41 (f := .free "int") rfl)
  b_isinstance := He.free_ok X G (c.fact 42 (f := .free "isinstance") rfl)
  b_len := He.free_ok X G (c.fact 43 (f := .free "len") rfl)
  b_list := He.free_ok X G (c.fact 44 (f := .free "list") rfl)
  b_max := He.free_ok X G (c.fact 45 (f := .free "max") rfl)
  b_min := He.free_ok X G (c.fact 46 (f := .free "min") rfl)
  b_range := He.free_ok X G (c.fact 47 (f := .free "range") rfl)
  b_str := He.free_ok X G (c.fact 48 (f := .free "str") rfl)
  b_tuple := He.free_ok X G (c.fact 49 (f := .free "tuple") rfl)
  i_MOST_BITS := He.int_ok X G (c.fact 50 (f := .int "MOST_BITS" 400) rfl)
  x_gcd := PySem.W.mg_of X G (He.eqO_ok b)
theorem intsDq {K : PySem.W.Frag} {H : Hp} {A : Addr → Prop} : ∀ ns : List Int, DqA K H A (ns.map V.int) (ns.map D.int)
  | [] => .nil
  | n :: ns => .cons (.int n) (intsDq ns)
theorem walkL {l : PySem.W.OpenLaw} {n k : Nat} {q : Program} {loose : List Str} {XP : (Str → Option Value) → Heap → Prop} {YP : World → Heap → Prop} {d : DefRec} {x : Str} (most : l.most = some n) (few : n ≤ sizeLine) (nod : d.params.defaults = []) (room : Room k callerA)
    (F : ∀ (w : World) (mg : Str → Option Value) (f : Addr) (h : Heap), YP w h → h.Ns mainGlobals mg → mg d.name = some (.ref f) →
      ∃ (K : PySem.W.Frag) (fd : FuncData) (sp : Sp), K.In h ∧ (∀ (s : Shared) (u : Value), BindsTo s fd ⟨[u], []⟩ [(x, u)]) ∧ (∀ (H : Hp) (a : Addr) (ns : List Int), SqL K H a (ns.map V.int) → sp [.ref a] H (fun v _ => v = .bl true) fun _ _ _ => False) ∧
        ∀ base : Heap, K.In base → base.Ns mainGlobals mg → FnOk l.prog w K mg base (L2.CX l.prog w) k f fd [x] sp) :
    PySem.W.WalkO q loose XP YP l.row.toRowW d [] (fun f vs => PySem.call f vs) := by
  refine Att.attach_call most nod fun w t0 t1 gm gb f o p c dc a vs ns good y z1 z2 z3 z4 z5 z6 z7 z8 => ?_
  obtain ⟨K, fd, sp, inK, binds, promise, ok⟩ := F w gm f _ y good.T.g z4
  exact law_call inK good.T.g good.T.b good.T.builtins good.T.nolimit z8 z5 z6 (Nat.le_trans z7 few) room ok binds (fun H _ sq => promise H a ns sq) fun H e s' ⟨_, _, _, _, _, _, _, _, _, _, _, _, z⟩ => z
end Lw
open PySem PySem.W PySem.Calls PyProof.Rows DL Lw
theorem PySem.Challenge.cw_beatwords_k02_whole_counts_holds : PySem.Challenge.rw_beatwords_k02_whole_counts.Holds := by
  w_on; o_law
  refine HandSHeadRun.head_imp (r := OpenLaw.row PySem.Challenge.rw_beatwords_k02_whole_counts) (q := view (OpenLaw.row PySem.Challenge.rw_beatwords_k02_whole_counts).prog [48]) (H := hkL) (ob := obL) (M := 9000) (loose := nmL) (d := HandSHeadRun.topDef (OpenLaw.row PySem.Challenge.rw_beatwords_k02_whole_counts).prog 48) (kwd := []) obL_eq runL
    (by kernel_rfl) (by kernel_rfl) (by kernel_rfl) (by rfl) (by first | assumption | decide +kernel) (by decide +kernel) ⟨rfl, rfl, rfl, rfl, rfl, by decide +kernel⟩ ?hw ?hc
  case hw => w_witness2
  case hc =>
    refine walkL (l := PySem.Challenge.rw_beatwords_k02_whole_counts) (n := 63) (k := 7) (x := "_law_script") rfl (by decide) (by kernel_rfl) ⟨rfl, by decide, by decide⟩ ?F
    intro w mg f h y G hmg0
    obtain ⟨K, inK, c, b⟩ := y
    have hmg : mg ("law" : PySem.Str) = some (.ref f) := by
      have e : (HandSHeadRun.topDef (OpenLaw.row PySem.Challenge.rw_beatwords_k02_whole_counts).prog 48).name = ("law" : PySem.Str) := by kernel_rfl
      rw [← e]
      exact hmg0
    have C := factsL inK G c b
    obtain ⟨fd, FD⟩ := c.def_ 38 (d := d_law) rfl
    have same := hmg.symm.trans (He.glo_ok inK G (c.fact 38 (f := .glo "law") rfl))
    cases same
    have bind := L2.FunD.bindsA (ps := ["_law_script"]) FD fun _ _ _ _ _ _ us hl => match us, hl with | [_], _ => rfl
    refine ⟨K, fd, spF K 1 m_law, inK, fun s u => bind s [u] rfl, fun H a ns sq => ?_, fun base _ _ => ok_law C FD⟩
    refine ⟨fun _ => False, [.fl (ns.map .int)], fun _ z => z.elim, rfl, .cons (.fl ?_ (intsDq ns)) .nil, ?_⟩
    · rcases sq with (sq | sq) | sq
      · exact .inl ⟨fun z => z, sq⟩
      · exact .inr (.inl sq)
      · exact .inr (.inr sq)
    · rw [law_ok ns]
      intro v H' _ dq
      cases dq
      rfl
