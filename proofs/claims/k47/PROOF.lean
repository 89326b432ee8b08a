import PyProof.Rows.All
import Wide.All
import OpenK.AllK
import Wide.FinOn
import HandS.ForMost
import HandS.ForExc
import HandS.Lambda
import HandS.IsInst
import HandS.Flow
import HandS.Wide
import HandS.WideBits
import HandS.TryMany
import HandS.ExcSuper
import HandS.StrMore
import HandS.Zip
import HandS.Deep
import HandS.SetKeys
import HandS.DictComp
import HandS.ListItems
import HandS.TupAny
import HandS.Rev
import HandS.Gcd
import HandS.SortKw
import HandS.CallSlots
import HandS.Style
import KE.GoesNew
import HandS.WordsDict
import HandS.Conv
import PyProof.FitsInt
import PyProof.ReprRoads
import HandS.Ends
import HandS.Small
import PySem.Challenge.RW_quotientcells_k47_outputs_of_any_logic
set_option Elab.async false
set_option linter.all false
set_option maxRecDepth 100000
set_option autoImplicit false
set_option maxHeartbeats 4000000
/-! D1: values as trees over the hand layer: what a slot stands for, the relation to the abstract heap, one step. -/
namespace DL
open PySem PySem.Spec
open PyProof.Rows hiding St
open L2

def keyD : Key → PyData
  | .inl i => .int i
  | .inr x => .str x

/-- a tuple, a list of the module's own -/
def KTup (K : PySem.W.Frag) (a : Addr) (xs : List V) : Prop :=
  ∃ (o : Obj) (its : Array Value) (n : Nat), K.lookup a = some o ∧ o.cls = .type "tuple" ∧ o.data = .seq its n ∧ its.size ≤ sizeLine ∧ Vals xs its.toList
mutual
/-- the value x stands for the tree d; nothing of it is in B -/
inductive RepP (K : PySem.W.Frag) (B : Addr → Prop) (H : Hp) : V → PyData → Prop
  | none : RepP K B H .non .none
  | bool (b : Bool) : RepP K B H (.bl b) (.bool b)
  | int (i : Int) : RepP K B H (.int i) (.int i)
  | str (x : Str) : x.length ≤ sizeLine → RepP K B H (.str x) (.str x)
  | tuple {a : Addr} {vs : List V} {xs : List PyData} : H a = some (.tup vs) → ¬ B a → vs.length ≤ sizeLine → RepPs K B H vs xs → RepP K B H (.ref a) (.tuple xs)
  | tupleK {a : Addr} {vs : List V} {xs : List PyData} : KTup K a vs → RepPs K B H vs xs → RepP K B H (.ref a) (.tuple xs)
  | list {a : Addr} {vs : List V} {xs : List PyData} : H a = some (.lst vs) → ¬ B a → vs.length ≤ sizeLine → RepPs K B H vs xs → RepP K B H (.ref a) (.list xs)
  | dict {a : Addr} {vs : List (Key × V)} {xs : List (PyData × PyData)} : H a = some (.dK vs) → ¬ B a → vs.length ≤ sizeLine → RepKs K B H vs xs → RepP K B H (.ref a) (.dict xs)
inductive RepPs (K : PySem.W.Frag) (B : Addr → Prop) (H : Hp) : List V → List PyData → Prop
  | nil : RepPs K B H [] []
  | cons {v : V} {d : PyData} {vs : List V} {ds : List PyData} : RepP K B H v d → RepPs K B H vs ds → RepPs K B H (v :: vs) (d :: ds)
inductive RepKs (K : PySem.W.Frag) (B : Addr → Prop) (H : Hp) : List (Key × V) → List (PyData × PyData) → Prop
  | nil : RepKs K B H [] []
  | cons {k : Key} {v : V} {d : PyData} {vs : List (Key × V)} {ds : List (PyData × PyData)} : RepP K B H v d → RepKs K B H vs ds → RepKs K B H ((k, v) :: vs) ((keyD k, d) :: ds)
end

structure Step (U B : Addr → Prop) (H : Hp) (U' B' : Addr → Prop) (H' : Hp) : Prop where
  keep : ∀ a o, H a = some o → ¬ U a → (∀ ps, o ≠ .tbl ps) → H' a = some o
  trk : ∀ a, H a ≠ none → H' a ≠ none
  stay : ∀ a, B a → ¬ U a → H a ≠ none → B' a
  bnew : ∀ a, B' a → B a ∨ H a = none
  unew : ∀ a, U' a → U a ∨ H a = none

section
variable {K : PySem.W.Frag} {U B U' B' U1 B1 U2 B2 : Addr → Prop} {H H' H1 H2 : Hp}
theorem Step.refl : Step U B H U B H := ⟨fun _ _ h _ _ => h, fun _ h => h, fun _ h _ _ => h, fun _ h => .inl h, fun _ h => .inl h⟩
theorem Step.trans (a : Step U B H U1 B1 H1) (b : Step U1 B1 H1 U2 B2 H2) : Step U B H U2 B2 H2 where
  keep := fun x o h n t => by
    refine b.keep x o (a.keep x o h n t) (fun q => ?_) t
    rcases a.unew x q with z | z
    · exact n z
    · rw [h] at z; cases z
  trk := fun x h => b.trk x (a.trk x h)
  stay := fun x h n t => by
    refine b.stay x (a.stay x h n t) (fun q => ?_) (a.trk x t)
    rcases a.unew x q with z | z
    · exact n z
    · exact t z
  bnew := fun x h => by
    rcases b.bnew x h with z | z
    · exact a.bnew x z
    · by_cases e : H x = none
      · exact .inr e
      · exact absurd z (a.trk x e)
  unew := fun x h => by
    rcases b.unew x h with z | z
    · exact a.unew x z
    · by_cases e : H x = none
      · exact .inr e
      · exact absurd z (a.trk x e)

theorem Step.notB (st : Step U B H U' B' H') {a : Addr} {o : HO} (h : H a = some o) (n : ¬ B a) : ¬ B' a := fun q => by
  rcases st.bnew a q with z | z
  · exact n z
  · rw [h] at z; cases z
mutual
theorem RepP.step (st : Step U B H U' B' H') (hU : ∀ a, U a → B a) : ∀ {v : V} {d : PyData}, RepP K B H v d → RepP K B' H' v d
  | _, _, .none => .none
  | _, _, .bool b => .bool b
  | _, _, .int i => .int i
  | _, _, .str x l => .str x l
  | _, _, .tuple r n l t => .tuple (st.keep _ _ r (fun q => n (hU _ q)) fun _ z => nomatch z) (st.notB r n) l (RepPs.step st hU t)
  | _, _, .tupleK r t => .tupleK r (RepPs.step st hU t)
  | _, _, .list r n l t => .list (st.keep _ _ r (fun q => n (hU _ q)) fun _ z => nomatch z) (st.notB r n) l (RepPs.step st hU t)
  | _, _, .dict r n l t => .dict (st.keep _ _ r (fun q => n (hU _ q)) fun _ z => nomatch z) (st.notB r n) l (RepKs.step st hU t)
theorem RepPs.step (st : Step U B H U' B' H') (hU : ∀ a, U a → B a) : ∀ {v : List V} {d : List PyData}, RepPs K B H v d → RepPs K B' H' v d
  | _, _, .nil => .nil
  | _, _, .cons r t => .cons (RepP.step st hU r) (RepPs.step st hU t)
theorem RepKs.step (st : Step U B H U' B' H') (hU : ∀ a, U a → B a) : ∀ {v : List (Key × V)} {d : List (PyData × PyData)}, RepKs K B H v d → RepKs K B' H' v d
  | _, _, .nil => .nil
  | _, _, .cons r t => .cons (RepP.step st hU r) (RepKs.step st hU t)
end
mutual
/-- fewer are shut out -/
theorem RepP.less (h : ∀ a, B' a → B a) : ∀ {v : V} {d : PyData}, RepP K B H v d → RepP K B' H v d
  | _, _, .none => .none
  | _, _, .bool b => .bool b
  | _, _, .int i => .int i
  | _, _, .str x l => .str x l
  | _, _, .tuple r n l t => .tuple r (fun q => n (h _ q)) l (RepPs.less h t)
  | _, _, .tupleK r t => .tupleK r (RepPs.less h t)
  | _, _, .list r n l t => .list r (fun q => n (h _ q)) l (RepPs.less h t)
  | _, _, .dict r n l t => .dict r (fun q => n (h _ q)) l (RepKs.less h t)
theorem RepPs.less (h : ∀ a, B' a → B a) : ∀ {v : List V} {d : List PyData}, RepPs K B H v d → RepPs K B' H v d
  | _, _, .nil => .nil
  | _, _, .cons r t => .cons (RepP.less h r) (RepPs.less h t)
theorem RepKs.less (h : ∀ a, B' a → B a) : ∀ {v : List (Key × V)} {d : List (PyData × PyData)}, RepKs K B H v d → RepKs K B' H v d
  | _, _, .nil => .nil
  | _, _, .cons r t => .cons (RepP.less h r) (RepKs.less h t)
end
theorem RepPs.length : ∀ {v : List V} {d : List PyData}, RepPs K B H v d → v.length = d.length
  | _, _, .nil => rfl
  | _, _, .cons _ t => by simp [RepPs.length t]
theorem RepPs.get : ∀ {v : List V} {d : List PyData} (i : Nat) {x : PyData}, RepPs K B H v d → d[i]? = some x → ∃ u, v[i]? = some u ∧ RepP K B H u x
  | _, _, _, _, .nil, e => by simp at e
  | _, _, 0, _, .cons r _, e => by simp at e; subst e; exact ⟨_, rfl, r⟩
  | _, _, i + 1, x, .cons _ t, e => by
    obtain ⟨u, h1, h2⟩ := RepPs.get i t (by simpa using e)
    exact ⟨u, by simpa using h1, h2⟩
theorem RepPs.append : ∀ {v : List V} {d : List PyData} {v' : List V} {d' : List PyData}, RepPs K B H v d → RepPs K B H v' d' → RepPs K B H (v ++ v') (d ++ d')
  | _, _, _, _, .nil, s => s
  | _, _, _, _, .cons r t, s => .cons r (RepPs.append t s)
theorem RepPs.take : ∀ {v : List V} {d : List PyData} (n : Nat), RepPs K B H v d → RepPs K B H (v.take n) (d.take n)
  | _, _, 0, _ => .nil
  | _, _, _ + 1, .nil => .nil
  | _, _, n + 1, .cons r t => .cons r (RepPs.take n t)
theorem RepPs.drop : ∀ {v : List V} {d : List PyData} (n : Nat), RepPs K B H v d → RepPs K B H (v.drop n) (d.drop n)
  | _, _, 0, r => r
  | _, _, _ + 1, .nil => .nil
  | _, _, n + 1, .cons _ t => RepPs.drop n t
end

/-- the one dict that the defs of a law hand on, and its list: where they stand -/
structure Dk where
  on : Bool
  ad : Addr
  al : Addr
  key : Str

def dkU (dk : Dk) (a : Addr) : Prop := dk.on = true ∧ (a = dk.ad ∨ a = dk.al)
def DeckAt (dk : Dk) (H : Hp) : Prop := dk.on = true → dk.ad ≠ dk.al ∧ ∃ (left : List Int) (m n : Int),
  H dk.ad = some (.dK [(.inr dk.key, .ref dk.al), (.inr "mixed", .int m), (.inr "draws", .int n)]) ∧ H dk.al = some (.lst (left.map V.int)) ∧ left.length ≤ 63

/-- what a name or an argument stands for -/
inductive Val where
  | d (x : PyData)
  | deck (key : Str)

def RepV (K : PySem.W.Frag) (dk : Dk) (B : Addr → Prop) (H : Hp) (x : V) : Val → Prop
  | .d p => RepP K B H x p
  | .deck key => dk.on = true ∧ dk.key = key ∧ x = .ref dk.ad

inductive RepVs (K : PySem.W.Frag) (dk : Dk) (B : Addr → Prop) (H : Hp) : List V → List Val → Prop
  | nil : RepVs K dk B H [] []
  | cons {v : V} {d : Val} {vs : List V} {ds : List Val} : RepV K dk B H v d → RepVs K dk B H vs ds → RepVs K dk B H (v :: vs) (d :: ds)

/-- a name's slot: without a value; a value; a list (a dict) of its own that is still being made -/
inductive Slot where
  | un
  | val (v : Val)
  | own (xs : List PyData)
  | ownD (kvs : List (PyData × PyData))
abbrev Env := List Slot

def Slot.isOwn : Slot → Bool
  | .own _ => true
  | .ownD _ => true
  | _ => false

def SlotR (K : PySem.W.Frag) (dk : Dk) (B : Addr → Prop) (H : Hp) (o : Option (Option V)) : Slot → Prop
  | .un => True
  | .val v => ∃ x, o = some (some x) ∧ RepV K dk B H x v
  | .own xs => ∃ a vs, o = some (some (.ref a)) ∧ H a = some (.lst vs) ∧ vs.length ≤ sizeLine ∧ RepPs K B H vs xs
  | .ownD kvs => ∃ a vs, o = some (some (.ref a)) ∧ H a = some (.dK vs) ∧ vs.length ≤ sizeLine ∧ RepKs K B H vs kvs

def OwnAt (σ : St) (ρ : Env) (i : Nat) (a : Addr) : Prop := ∃ s, ρ[i]? = some s ∧ s.isOwn = true ∧ σ[i]? = some (some (.ref a))
/-- what may be written -/
def UU (dk : Dk) (σ : St) (ρ : Env) (a : Addr) : Prop := dkU dk a ∨ ∃ i, OwnAt σ ρ i a

structure Rel (K : PySem.W.Frag) (dk : Dk) (B : Addr → Prop) (H : Hp) (σ : St) (ρ : Env) : Prop where
  len : σ.length = ρ.length
  slot : ∀ (i : Nat) (s : Slot), ρ[i]? = some s → SlotR K dk B H (σ[i]?) s
  sep : ∀ (i j : Nat) (a : Addr), OwnAt σ ρ i a → OwnAt σ ρ j a → i = j
  ownB : ∀ (i : Nat) (a : Addr), OwnAt σ ρ i a → B a ∧ ¬ dkU dk a
  deck : DeckAt dk H
  deckB : ∀ a, dkU dk a → B a
  trk : ∀ a, B a → H a ≠ none

section
variable {K : PySem.W.Frag} {dk : Dk} {B B' U U' : Addr → Prop} {H H' : Hp} {σ σ' : St} {ρ ρ' : Env}
theorem RepV.step (st : Step U B H U' B' H') (hU : ∀ a, U a → B a) {x : V} {v : Val} (r : RepV K dk B H x v) : RepV K dk B' H' x v := by
  cases v with
  | d p => exact RepP.step st hU r
  | deck => exact r
theorem RepV.less (h : ∀ a, B' a → B a) {x : V} {v : Val} (r : RepV K dk B H x v) : RepV K dk B' H x v := by
  cases v with
  | d p => exact RepP.less h r
  | deck => exact r
theorem RepVs.step (st : Step U B H U' B' H') (hU : ∀ a, U a → B a) : ∀ {x : List V} {v : List Val}, RepVs K dk B H x v → RepVs K dk B' H' x v
  | _, _, .nil => .nil
  | _, _, .cons r t => .cons (r.step st hU) (RepVs.step st hU t)
theorem RepVs.length : ∀ {v : List V} {d : List Val}, RepVs K dk B H v d → v.length = d.length
  | _, _, .nil => rfl
  | _, _, .cons _ t => by simp [RepVs.length t]
theorem Rel.UB (r : Rel K dk B H σ ρ) : ∀ a, UU dk σ ρ a → B a := fun a h => by
  rcases h with h | ⟨i, h⟩
  · exact r.deckB a h
  · exact (r.ownB i a h).1

/-- what a def's call does to the heap: only the deck is written -/
structure Keep (dk : Dk) (H H' : Hp) : Prop where
  keep : ∀ a o, H a = some o → ¬ dkU dk a → (∀ ps, o ≠ .tbl ps) → H' a = some o
  trk : ∀ a, H a ≠ none → H' a ≠ none
  deck : DeckAt dk H'
theorem SlotR.step (st : Step U B H U' B' H') (hU : ∀ a, U a → B a) {o : Option (Option V)} {s : Slot} (hs : ∀ a, s.isOwn = true → o = some (some (.ref a)) → ∀ u, H a = some u → H' a = some u) (r : SlotR K dk B H o s) : SlotR K dk B' H' o s := by
  cases s with
  | un => trivial
  | val v =>
    obtain ⟨x, e, q⟩ := r
    exact ⟨x, e, q.step st hU⟩
  | own xs =>
    obtain ⟨a, vs, e, h, l, q⟩ := r
    exact ⟨a, vs, e, hs a rfl e _ h, l, RepPs.step st hU q⟩
  | ownD kvs =>
    obtain ⟨a, vs, e, h, l, q⟩ := r
    exact ⟨a, vs, e, hs a rfl e _ h, l, RepKs.step st hU q⟩
/-- behind a call -/
theorem Rel.kept (r : Rel K dk B H σ ρ) (k : Keep dk H H') : Rel K dk B H' σ ρ ∧ Step (UU dk σ ρ) B H (UU dk σ ρ) B H' := by
  have st : Step (UU dk σ ρ) B H (UU dk σ ρ) B H' := ⟨fun a o h n t => k.keep a o h (fun q => n (.inl q)) t, k.trk, fun _ h _ _ => h, fun _ h => .inl h, fun _ h => .inl h⟩
  refine ⟨⟨r.len, fun i s e => (r.slot i s e).step st r.UB fun a hs he u hu => ?_, r.sep, r.ownB, k.deck, r.deckB, fun a h => k.trk a (r.trk a h)⟩, st⟩
  refine k.keep a u hu (r.ownB i a ⟨s, e, hs, he⟩).2 fun ps z => ?_
  subst z
  have q := r.slot i s e
  cases s with
  | un => cases hs
  | val v => cases hs
  | own xs =>
    obtain ⟨a', vs, e', h, _⟩ := q
    rw [he] at e'; cases e'; rw [hu] at h; cases h
  | ownD xs =>
    obtain ⟨a', vs, e', h, _⟩ := q
    rw [he] at e'; cases e'; rw [hu] at h; cases h
/-- something new is laid -/
theorem Rel.laid (r : Rel K dk B H σ ρ) {p : Addr} {o : HO} (hp : H p = none) : Rel K dk B (upd H p o) σ ρ ∧ Step (UU dk σ ρ) B H (UU dk σ ρ) B (upd H p o) := by
  have ne : ∀ a u, H a = some u → a ≠ p := fun a u e => ne_of_none e hp
  have hk : Keep dk H (upd H p o) := ⟨fun a u h _ _ => by rw [upd_ne (ne a u h)]; exact h, fun a h => by
      by_cases e : a = p
      · rw [e, upd_same]; simp
      · rw [upd_ne e]; exact h, fun on => by
      obtain ⟨n, l, m, k, h1, h2, h3⟩ := r.deck on
      exact ⟨n, l, m, k, by rw [upd_ne (ne _ _ h1)]; exact h1, by rw [upd_ne (ne _ _ h2)]; exact h2, h3⟩⟩
  exact r.kept hk
end
end DL
set_option maxHeartbeats 4000000
/-! D2: the judgements over trees: expressions, tests, arguments, statements; names, constants, operators, control. -/
namespace DL
open PySem PySem.Spec
open PyProof.Rows hiding St
open L2

/-- what is wanted of an exception: its class, what it carries, the slots -/
abbrev XQ := Str → PyData → Env → Prop
abbrev DTE := Env → (Val → Env → Prop) → XQ → Prop
abbrev DTT := Env → (Bool → Env → Prop) → XQ → Prop
abbrev DTA := Env → (List Val → Env → Prop) → XQ → Prop
structure DEnds where
  nx : Env → Prop
  rt : Val → Env → Prop
  bk : Env → Prop
  ct : Env → Prop
  ex : XQ
abbrev DTS := DEnds → Env → Prop

def MonoE (t : DTE) : Prop := ∀ ρ Q Q' (E E' : XQ), (∀ v ρ', Q v ρ' → Q' v ρ') → (∀ c th ρ', E c th ρ' → E' c th ρ') → t ρ Q E → t ρ Q' E'
def MonoT (t : DTT) : Prop := ∀ ρ Q Q' (E E' : XQ), (∀ v ρ', Q v ρ' → Q' v ρ') → (∀ c th ρ', E c th ρ' → E' c th ρ') → t ρ Q E → t ρ Q' E'
def MonoA (t : DTA) : Prop := ∀ ρ Q Q' (E E' : XQ), (∀ v ρ', Q v ρ' → Q' v ρ') → (∀ c th ρ', E c th ρ' → E' c th ρ') → t ρ Q E → t ρ Q' E'
structure DEnds.Le (D D' : DEnds) : Prop where
  nx : ∀ ρ, D.nx ρ → D'.nx ρ
  rt : ∀ v ρ, D.rt v ρ → D'.rt v ρ
  bk : ∀ ρ, D.bk ρ → D'.bk ρ
  ct : ∀ ρ, D.ct ρ → D'.ct ρ
  ex : ∀ c th ρ, D.ex c th ρ → D'.ex c th ρ
theorem DEnds.Le.refl (D : DEnds) : DEnds.Le D D := ⟨fun _ h => h, fun _ _ h => h, fun _ h => h, fun _ h => h, fun _ _ _ h => h⟩
def MonoS (t : DTS) : Prop := ∀ D D' ρ, DEnds.Le D D' → t D ρ → t D' ρ

def fldOf (c : Str) : Str := if c = "BadText" then "at" else "thing"

section
variable (K : PySem.W.Frag) (mg : Str → Option Value) (dk : Dk) (W : WX)
/-- an exception has come, from the state (B, H, σ, ρ) on -/
def exS (B : Addr → Prop) (H : Hp) (σ : L2.St) (ρ : Env) : XQ := fun c th ρ' => ∀ (C dx : Addr) (x : V) (σ' : L2.St) (B' : Addr → Prop) (H' : Hp), mg c = some (.ref C) → H' dx = some (.xd [(fldOf c, x)]) → RepP K B' H' x th →
  Rel K dk B' H' σ' ρ' → Step (UU dk σ ρ) B H (UU dk σ' ρ') B' H' → W (.ref C) (some dx) σ' H'
def exE (B : Addr → Prop) (H : Hp) (σ : L2.St) (ρ : Env) : XQ := fun c th ρ' => ∀ (C dx : Addr) (x : V) (B' : Addr → Prop) (H' : Hp), mg c = some (.ref C) → H' dx = some (.xd [(fldOf c, x)]) → RepP K B' H' x th →
  Rel K dk B' H' σ ρ' → Step (UU dk σ ρ) B H (UU dk σ ρ') B' H' → W (.ref C) (some dx) σ H'
def okE (Q : VK) (B : Addr → Prop) (H : Hp) (σ : L2.St) (ρ : Env) : Val → Env → Prop := fun v ρ' => ∀ (x : V) (B' : Addr → Prop) (H' : Hp), Rel K dk B' H' σ ρ' → Step (UU dk σ ρ) B H (UU dk σ ρ') B' H' → RepV K dk B' H' x v → Q x H'
def okT (Q : Bool → Hp → Prop) (B : Addr → Prop) (H : Hp) (σ : L2.St) (ρ : Env) : Bool → Env → Prop := fun b ρ' => ∀ (B' : Addr → Prop) (H' : Hp), Rel K dk B' H' σ ρ' → Step (UU dk σ ρ) B H (UU dk σ ρ') B' H' → Q b H'
def okA (Q : List V → Hp → Prop) (B : Addr → Prop) (H : Hp) (σ : L2.St) (ρ : Env) : List Val → Env → Prop := fun v ρ' => ∀ (x : List V) (B' : Addr → Prop) (H' : Hp), Rel K dk B' H' σ ρ' → Step (UU dk σ ρ) B H (UU dk σ ρ') B' H' → RepVs K dk B' H' x v → Q x H'
def okN (Q : L2.St → Hp → Prop) (B : Addr → Prop) (H : Hp) (σ : L2.St) (ρ : Env) : Env → Prop := fun ρ' => ∀ (σ' : L2.St) (B' : Addr → Prop) (H' : Hp), Rel K dk B' H' σ' ρ' → Step (UU dk σ ρ) B H (UU dk σ' ρ') B' H' → Q σ' H'
def okR (Q : VK) (B : Addr → Prop) (H : Hp) (σ : L2.St) (ρ : Env) : Val → Env → Prop := fun v ρ' => ∀ (x : V) (σ' : L2.St) (B' : Addr → Prop) (H' : Hp), Rel K dk B' H' σ' ρ' → Step (UU dk σ ρ) B H (UU dk σ' ρ') B' H' → RepV K dk B' H' x v → Q x H'
def okD (D : Ends) (B : Addr → Prop) (H : Hp) (σ : L2.St) (ρ : Env) : DEnds :=
  { nx := okN K dk D.nx B H σ ρ, rt := okR K dk D.rt B H σ ρ, bk := okN K dk D.bk B H σ ρ, ct := okN K dk D.ct B H σ ρ, ex := exS K mg dk W B H σ ρ }

def tDE (t : DTE) : TE := fun σ H Q => ∃ (B : Addr → Prop) (ρ : Env), Rel K dk B H σ ρ ∧ t ρ (okE K dk Q B H σ ρ) (exE K mg dk W B H σ ρ)
def tDT (t : DTT) : TT := fun σ H Q => ∃ (B : Addr → Prop) (ρ : Env), Rel K dk B H σ ρ ∧ t ρ (okT K dk Q B H σ ρ) (exE K mg dk W B H σ ρ)
def tDA (t : DTA) : TA := fun σ H Q => ∃ (B : Addr → Prop) (ρ : Env), Rel K dk B H σ ρ ∧ t ρ (okA K dk Q B H σ ρ) (exE K mg dk W B H σ ρ)
def tDS (t : DTS) : TS := fun D σ H => ∃ (B : Addr → Prop) (ρ : Env), Rel K dk B H σ ρ ∧ t (okD K mg dk W D B H σ ρ) ρ
end

structure DE (X : Cx) (dk : Dk) (W : WX) (e : Expr) (t : DTE) : Prop where
  pe : PE X e (tDE X.K X.mg dk W t)
  mono : MonoE t
structure DT (X : Cx) (dk : Dk) (W : WX) (e : Expr) (t : DTT) : Prop where
  pt : PT X e (tDT X.K X.mg dk W t)
  mono : MonoT t
structure DW (X : Cx) (dk : Dk) (W : WX) (e : Expr) (t : DTT) : Prop where
  pw : PW X e (tDT X.K X.mg dk W t)
  mono : MonoT t
structure DA (X : Cx) (dk : Dk) (W : WX) (es : List Expr) (t : DTA) : Prop where
  pa : PA X es (tDA X.K X.mg dk W t)
  mono : MonoA t
structure DS (X : Cx) (dk : Dk) (W : WX) (s : Stmt) (t : DTS) : Prop where
  ps : PS X s (tDS X.K X.mg dk W t)
  mono : MonoS t
structure DSs (X : Cx) (dk : Dk) (W : WX) (s : List Stmt) (t : DTS) : Prop where
  ps : PSs X s (tDS X.K X.mg dk W t)
  mono : MonoS t

theorem PE.imp {X : Cx} {e : Expr} {t t' : TE} (h : PE X e t) (i : ∀ σ H Q, t' σ H Q → t σ H Q) : PE X e t' := ⟨fun pins s σ H Q I q => h.run pins s σ H Q I (i _ _ _ q)⟩
theorem PT.imp {X : Cx} {e : Expr} {t t' : TT} (h : PT X e t) (i : ∀ σ H Q, t' σ H Q → t σ H Q) : PT X e t' := ⟨fun pins s σ H Q I q => h.run pins s σ H Q I (i _ _ _ q)⟩
theorem PW.imp {X : Cx} {e : Expr} {t t' : TT} (h : PW X e t) (i : ∀ σ H Q, t' σ H Q → t σ H Q) : PW X e t' := ⟨fun wh pins s σ H Q I q => h.run wh pins s σ H Q I (i _ _ _ q)⟩
theorem PA.imp {X : Cx} {e : List Expr} {t t' : TA} (h : PA X e t) (i : ∀ σ H Q, t' σ H Q → t σ H Q) : PA X e t' := ⟨fun pos pins s σ H Q I q => h.run pos pins s σ H Q I (i _ _ _ q)⟩
theorem PS.imp {X : Cx} {e : Stmt} {t t' : TS} (h : PS X e t) (i : ∀ D σ H, t' D σ H → t D σ H) : PS X e t' := ⟨fun pins s σ H D I q => h.run pins s σ H D I (i _ _ _ q)⟩
theorem PSs.imp {X : Cx} {e : List Stmt} {t t' : TS} (h : PSs X e t) (i : ∀ D σ H, t' D σ H → t D σ H) : PSs X e t' := ⟨fun pins s σ H D I q => h.run pins s σ H D I (i _ _ _ q)⟩

section
variable {K : PySem.W.Frag} {mg : Str → Option Value} {dk : Dk} {W : WX} {B B1 : Addr → Prop} {H H1 : Hp} {σ σ1 : L2.St} {ρ ρ1 : Env}
theorem exE.next (st : Step (UU dk σ ρ) B H (UU dk σ ρ1) B1 H1) {c : Str} {th : PyData} {ρ' : Env} (h : exE K mg dk W B H σ ρ c th ρ') : exE K mg dk W B1 H1 σ ρ1 c th ρ' :=
  fun C dx x B' H' a b r l s => h C dx x B' H' a b r l (st.trans s)
theorem exS.next (st : Step (UU dk σ ρ) B H (UU dk σ1 ρ1) B1 H1) {c : Str} {th : PyData} {ρ' : Env} (h : exS K mg dk W B H σ ρ c th ρ') : exS K mg dk W B1 H1 σ1 ρ1 c th ρ' :=
  fun C dx x σ' B' H' a b r l s => h C dx x σ' B' H' a b r l (st.trans s)
theorem exS.toE {c : Str} {th : PyData} {ρ' : Env} (h : exS K mg dk W B H σ ρ c th ρ') : exE K mg dk W B H σ ρ c th ρ' := fun C dx x B' H' a b r l s => h C dx x σ B' H' a b r l s
theorem okE.next (st : Step (UU dk σ ρ) B H (UU dk σ ρ1) B1 H1) {Q : VK} {v : Val} {ρ' : Env} (h : okE K dk Q B H σ ρ v ρ') : okE K dk Q B1 H1 σ ρ1 v ρ' := fun x B' H' l s r => h x B' H' l (st.trans s) r
theorem okT.next (st : Step (UU dk σ ρ) B H (UU dk σ ρ1) B1 H1) {Q : Bool → Hp → Prop} {v : Bool} {ρ' : Env} (h : okT K dk Q B H σ ρ v ρ') : okT K dk Q B1 H1 σ ρ1 v ρ' := fun B' H' l s => h B' H' l (st.trans s)
theorem okA.next (st : Step (UU dk σ ρ) B H (UU dk σ ρ1) B1 H1) {Q : List V → Hp → Prop} {v : List Val} {ρ' : Env} (h : okA K dk Q B H σ ρ v ρ') : okA K dk Q B1 H1 σ ρ1 v ρ' := fun x B' H' l s r => h x B' H' l (st.trans s) r
theorem okN.next (st : Step (UU dk σ ρ) B H (UU dk σ1 ρ1) B1 H1) {Q : L2.St → Hp → Prop} {ρ' : Env} (h : okN K dk Q B H σ ρ ρ') : okN K dk Q B1 H1 σ1 ρ1 ρ' := fun x B' H' l s => h x B' H' l (st.trans s)
theorem okR.next (st : Step (UU dk σ ρ) B H (UU dk σ1 ρ1) B1 H1) {Q : VK} {v : Val} {ρ' : Env} (h : okR K dk Q B H σ ρ v ρ') : okR K dk Q B1 H1 σ1 ρ1 v ρ' := fun x σ' B' H' l s r => h x σ' B' H' l (st.trans s) r
theorem okD.next (st : Step (UU dk σ ρ) B H (UU dk σ1 ρ1) B1 H1) (D : Ends) : DEnds.Le (okD K mg dk W D B H σ ρ) (okD K mg dk W D B1 H1 σ1 ρ1) :=
  ⟨fun _ h => okN.next st h, fun _ _ h => okR.next st h, fun _ h => okN.next st h, fun _ h => okN.next st h, fun _ _ _ h => exS.next st h⟩

/-- THE STEP: t first, then what hangs on its value -/
theorem bindE {t : DTE} (m : MonoE t) (r : Rel K dk B H σ ρ) {F : Val → Env → Prop} {E : XQ} (h : t ρ F E) (hE : ∀ c th ρ', E c th ρ' → exE K mg dk W B H σ ρ c th ρ') {R : V → Hp → Prop}
    (hk : ∀ v ρ1 x B1 H1, F v ρ1 → Rel K dk B1 H1 σ ρ1 → Step (UU dk σ ρ) B H (UU dk σ ρ1) B1 H1 → RepV K dk B1 H1 x v → R x H1) : tDE K mg dk W t σ H R :=
  ⟨B, ρ, r, m ρ _ _ _ _ (fun v ρ1 f x B1 H1 l s q => hk v ρ1 x B1 H1 f l s q) hE h⟩
theorem bindT {t : DTT} (m : MonoT t) (r : Rel K dk B H σ ρ) {F : Bool → Env → Prop} {E : XQ} (h : t ρ F E) (hE : ∀ c th ρ', E c th ρ' → exE K mg dk W B H σ ρ c th ρ') {R : Bool → Hp → Prop}
    (hk : ∀ v ρ1 B1 H1, F v ρ1 → Rel K dk B1 H1 σ ρ1 → Step (UU dk σ ρ) B H (UU dk σ ρ1) B1 H1 → R v H1) : tDT K mg dk W t σ H R :=
  ⟨B, ρ, r, m ρ _ _ _ _ (fun v ρ1 f B1 H1 l s => hk v ρ1 B1 H1 f l s) hE h⟩
theorem bindA {t : DTA} (m : MonoA t) (r : Rel K dk B H σ ρ) {F : List Val → Env → Prop} {E : XQ} (h : t ρ F E) (hE : ∀ c th ρ', E c th ρ' → exE K mg dk W B H σ ρ c th ρ') {R : List V → Hp → Prop}
    (hk : ∀ v ρ1 x B1 H1, F v ρ1 → Rel K dk B1 H1 σ ρ1 → Step (UU dk σ ρ) B H (UU dk σ ρ1) B1 H1 → RepVs K dk B1 H1 x v → R x H1) : tDA K mg dk W t σ H R :=
  ⟨B, ρ, r, m ρ _ _ _ _ (fun v ρ1 f x B1 H1 l s q => hk v ρ1 x B1 H1 f l s q) hE h⟩
end

/-! ### names and constants -/
/-- the value of a name; a list of its own that is read so is closed from then on -/
def dVar (i : Nat) : DTE := fun ρ Q _ => match ρ[i]? with
  | some (.val v) => Q v ρ
  | some (.own xs) => Q (.d (.list xs)) (ρ.set i (.val (.d (.list xs))))
  | some (.ownD kvs) => Q (.d (.dict kvs)) (ρ.set i (.val (.d (.dict kvs))))
  | _ => False
def dC (x : PyData) : DTE := fun ρ Q _ => Q (.d x) ρ
theorem monoVar (i : Nat) : MonoE (dVar i) := fun ρ Q Q' E E' hQ _ h => by
  unfold dVar at h ⊢
  cases e : ρ[i]? with
  | none => rw [e] at h; exact h
  | some s => rw [e] at h; cases s <;> first | exact hQ _ _ h | exact h
theorem monoC (x : PyData) : MonoE (dC x) := fun ρ Q Q' E E' hQ _ h => hQ _ _ h

section
variable {K : PySem.W.Frag} {dk : Dk} {B : Addr → Prop} {H : Hp} {σ : L2.St} {ρ : Env}
theorem get_set {α : Type} {l : List α} {i j : Nat} {a b : α} (h : (l.set i a)[j]? = some b) : (i = j ∧ a = b ∧ i < l.length) ∨ (i ≠ j ∧ l[j]? = some b) := by
  by_cases e : i = j
  · subst e
    by_cases hi : i < l.length
    · rw [List.getElem?_set_self hi] at h
      exact .inl ⟨rfl, Option.some.inj h, hi⟩
    · rw [List.getElem?_eq_none (by simpa using hi)] at h
      cases h
  · rw [List.getElem?_set_ne e] at h
    exact .inr ⟨e, h⟩
/-- a list of its own is closed -/
theorem Rel.closed (r : Rel K dk B H σ ρ) {i : Nat} {s : Slot} {a : Addr} {v : Val} (hs : ρ[i]? = some s) (ho : s.isOwn = true) (ha : σ[i]? = some (some (.ref a)))
    (hv : RepV K dk (fun b => B b ∧ b ≠ a) H (.ref a) v) : Rel K dk (fun b => B b ∧ b ≠ a) H σ (ρ.set i (.val v)) ∧ Step (UU dk σ ρ) B H (UU dk σ (ρ.set i (.val v))) (fun b => B b ∧ b ≠ a) H := by
  have own : OwnAt σ ρ i a := ⟨s, hs, ho, ha⟩
  have sub : ∀ b, (B b ∧ b ≠ a) → B b := fun b h => h.1
  have ownS : ∀ {j b}, OwnAt σ (ρ.set i (.val v)) j b → OwnAt σ ρ j b ∧ j ≠ i := fun {j b} ⟨s', e, o, q⟩ => by
    rcases get_set e with ⟨rfl, rfl, _⟩ | ⟨n, e'⟩
    · cases o
    · exact ⟨⟨s', e', o, q⟩, fun z => n z.symm⟩
  have ndk : ∀ b, dkU dk b → b ≠ a := fun b h z => (r.ownB i a own).2 (z ▸ h)
  refine ⟨⟨by rw [List.length_set]; exact r.len, fun j s' e => ?_, fun j k b h1 h2 => r.sep j k b (ownS h1).1 (ownS h2).1, fun j b h => ⟨⟨(r.ownB j b (ownS h).1).1, fun z => ?_⟩, (r.ownB j b (ownS h).1).2⟩, r.deck, fun b h => ⟨r.deckB b h, ndk b h⟩, fun b h => r.trk b h.1⟩,
    ⟨fun _ _ h _ _ => h, fun _ h => h, fun b h n _ => ⟨h, fun z => n (.inr ⟨i, z ▸ own⟩)⟩, fun b h => .inl h.1, fun b h => ?_⟩⟩
  · rcases get_set e with ⟨rfl, rfl, _⟩ | ⟨n, e'⟩
    · exact ⟨.ref a, ha, hv⟩
    · have q := r.slot j s' e'
      cases s' with
      | un => trivial
      | val v' => obtain ⟨x, e1, q⟩ := q; exact ⟨x, e1, q.less sub⟩
      | own xs => obtain ⟨b, vs, e1, e2, l, q⟩ := q; exact ⟨b, vs, e1, e2, l, RepPs.less sub q⟩
      | ownD xs => obtain ⟨b, vs, e1, e2, l, q⟩ := q; exact ⟨b, vs, e1, e2, l, RepKs.less sub q⟩
  · exact (ownS h).2 (r.sep j i a (z ▸ (ownS h).1) own)
  · rcases h with h | ⟨j, h⟩
    · exact .inl (.inl h)
    · exact .inl (.inr ⟨j, (ownS h).1⟩)
end

section
variable {X : Cx} {dk : Dk} {W : WX}
theorem de_var (i : Nat) {x : Str} {pos : Pos} (hN : X.N[i]? = some x := by rfl) (hv : Vis X.env.scope x := by first | exact Or.inl rfl | exact Or.inr (Or.inl rfl) | exact Or.inr (Or.inr rfl)) (hd : (x == ("__debug__" : Str)) = false := by decide)
    (hcd : (x == ("__classdict__" : Str)) = false := by decide) : DE X dk W (.Name x pos) (dVar i) := by
  refine ⟨PE.imp (pe_var hN hv hd hcd) fun σ H Q h => ?_, monoVar i⟩
  obtain ⟨B, ρ, r, h⟩ := h
  unfold dVar at h
  cases e : ρ[i]? with
  | none => rw [e] at h; exact h.elim
  | some s =>
    rw [e] at h
    have q := r.slot i s e
    cases s with
    | un => exact h.elim
    | val v =>
      obtain ⟨x', e1, q⟩ := q
      exact ⟨x', e1, h x' B H r Step.refl q⟩
    | own xs =>
      obtain ⟨a, vs, e1, e2, l, q⟩ := q
      have q' := RepPs.less (B' := fun b => B b ∧ b ≠ a) (fun b z => z.1) q
      have rv : RepV X.K dk (fun b => B b ∧ b ≠ a) H (.ref a) (.d (.list xs)) := .list e2 (fun z => z.2 rfl) l q'
      obtain ⟨r', st⟩ := r.closed e rfl e1 rv
      exact ⟨.ref a, e1, h _ _ H r' st rv⟩
    | ownD xs =>
      obtain ⟨a, vs, e1, e2, l, q⟩ := q
      have q' := RepKs.less (B' := fun b => B b ∧ b ≠ a) (fun b z => z.1) q
      have rv : RepV X.K dk (fun b => B b ∧ b ≠ a) H (.ref a) (.d (.dict xs)) := .dict e2 (fun z => z.2 rfl) l q'
      obtain ⟨r', st⟩ := r.closed e rfl e1 rv
      exact ⟨.ref a, e1, h _ _ H r' st rv⟩
theorem de_c {e : Expr} {v : V} {x : PyData} (h : PE X e (tC v)) (hr : ∀ B H, RepP X.K B H v x) : DE X dk W e (dC x) :=
  ⟨PE.imp h fun σ H Q ⟨B, ρ, r, q⟩ => q v B H r Step.refl (hr B H), monoC x⟩
theorem de_int {i j pos} : DE X dk W (.Constant (.int i) j pos) (dC (.int i)) := de_c pe_int fun _ _ => .int i
theorem de_bl {b j pos} : DE X dk W (.Constant (.bool b) j pos) (dC (.bool b)) := de_c pe_bl fun _ _ => .bool b
theorem de_non {j pos} : DE X dk W (.Constant .none j pos) (dC .none) := de_c pe_non fun _ _ => .none
theorem de_str {x j pos} (h : x.length ≤ sizeLine := by decide +kernel) : DE X dk W (.Constant (.str x) j pos) (dC (.str x)) := de_c pe_str fun _ _ => .str x h
end
end DL
set_option maxHeartbeats 4000000
/-! D3: control, arguments, displays; operators by values. -/
namespace DL
open PySem PySem.Spec
open PyProof.Rows hiding St
open L2

/-- nothing changed but what is new -/
def Grow (H H' : Hp) : Prop := ∀ a o, H a = some o → H' a = some o
theorem Grow.refl (H : Hp) : Grow H H := fun _ _ h => h
theorem Grow.upd {H : Hp} {p : Addr} {o : HO} (hp : H p = none) : Grow H (upd H p o) := fun a u e => by rw [upd_ne (ne_of_none e hp)]; exact e
section
variable {K : PySem.W.Frag} {dk : Dk} {B : Addr → Prop} {H H' : Hp} {σ : L2.St} {ρ : Env}
theorem Grow.keep (g : Grow H H') (d : DeckAt dk H) : Keep dk H H' := ⟨fun a o h _ _ => g a o h, fun a h => by
  cases e : H a with
  | none => exact absurd e h
  | some o => rw [g a o e]; simp, fun on => by
  obtain ⟨n, l, m, k, h1, h2, h3⟩ := d on
  exact ⟨n, l, m, k, g _ _ h1, g _ _ h2, h3⟩⟩
theorem Rel.grow (r : Rel K dk B H σ ρ) (g : Grow H H') : Rel K dk B H' σ ρ ∧ Step (UU dk σ ρ) B H (UU dk σ ρ) B H' := r.kept (g.keep r.deck)
end

/-! ### values of expressions as tests, and back -/
def dTest (t : DTE) : DTT := fun ρ Q E => t ρ (fun v ρ' => match v with
  | .d (.bool b) => Q b ρ'
  | _ => False) E
def dNot (t : DTT) : DTT := fun ρ Q E => t ρ (fun b ρ' => Q (!b) ρ') E
def dAnd (t u : DTT) : DTT := fun ρ Q E => t ρ (fun b ρ' => if b = true then u ρ' Q E else Q false ρ') E
def dOr (t u : DTT) : DTT := fun ρ Q E => t ρ (fun b ρ' => if b = true then Q true ρ' else u ρ' Q E) E
def dIfE (c : DTT) (t u : DTE) : DTE := fun ρ Q E => c ρ (fun b ρ' => if b = true then t ρ' Q E else u ρ' Q E) E
def dAndV (t u : DTE) : DTE := fun ρ Q E => t ρ (fun v ρ' => match v with
  | .d (.bool b) => if b = true then u ρ' Q E else Q (.d (.bool false)) ρ'
  | _ => False) E
def dOrV (t u : DTE) : DTE := fun ρ Q E => t ρ (fun v ρ' => match v with
  | .d (.bool b) => if b = true then Q (.d (.bool true)) ρ' else u ρ' Q E
  | _ => False) E
def dNotV (t : DTE) : DTE := fun ρ Q E => t ρ (fun v ρ' => match v with
  | .d (.bool b) => Q (.d (.bool (!b))) ρ'
  | _ => False) E
def dNil : DTA := fun ρ Q _ => Q [] ρ
def dCons (t : DTE) (u : DTA) : DTA := fun ρ Q E => t ρ (fun v ρ' => u ρ' (fun vs ρ'' => Q (v :: vs) ρ'') E) E

/-- all of some values are trees -/
def datas : List Val → Option (List PyData)
  | [] => some []
  | .d x :: r => (datas r).map (x :: ·)
  | _ => none
def dTup (t : DTA) : DTE := fun ρ Q E => t ρ (fun vs ρ' => match datas vs with
  | some xs => xs.length ≤ sizeLine ∧ Q (.d (.tuple xs)) ρ'
  | none => False) E
def dLst (t : DTA) : DTE := fun ρ Q E => t ρ (fun vs ρ' => match datas vs with
  | some xs => xs.length ≤ sizeLine ∧ Q (.d (.list xs)) ρ'
  | none => False) E

section
variable {t u : DTE} {c d : DTT} {a : DTA}
theorem monoTest (m : MonoE t) : MonoT (dTest t) := fun ρ Q Q' E E' hQ hE h => m ρ _ _ _ _ (fun v ρ' q => by
  cases v with
  | d x => cases x <;> first | exact hQ _ _ q | exact q
  | deck => exact q) hE h
theorem monoNot (m : MonoT c) : MonoT (dNot c) := fun ρ Q Q' E E' hQ hE h => m ρ _ _ _ _ (fun v ρ' q => hQ _ _ q) hE h
theorem monoAnd (m : MonoT c) (n : MonoT d) : MonoT (dAnd c d) := fun ρ Q Q' E E' hQ hE h => m ρ _ _ _ _ (fun v ρ' q => by
  cases v with
  | true => exact n _ _ _ _ _ hQ hE q
  | false => exact hQ _ _ q) hE h
theorem monoOr (m : MonoT c) (n : MonoT d) : MonoT (dOr c d) := fun ρ Q Q' E E' hQ hE h => m ρ _ _ _ _ (fun v ρ' q => by
  cases v with
  | false => exact n _ _ _ _ _ hQ hE q
  | true => exact hQ _ _ q) hE h
theorem monoIfE (m : MonoT c) (n : MonoE t) (k : MonoE u) : MonoE (dIfE c t u) := fun ρ Q Q' E E' hQ hE h => m ρ _ _ _ _ (fun v ρ' q => by
  cases v with
  | true => exact n _ _ _ _ _ hQ hE q
  | false => exact k _ _ _ _ _ hQ hE q) hE h
theorem monoAndV (m : MonoE t) (n : MonoE u) : MonoE (dAndV t u) := fun ρ Q Q' E E' hQ hE h => m ρ _ _ _ _ (fun v ρ' q => by
  cases v with
  | d x =>
    cases x with
    | bool b =>
      cases b with
      | true => exact n _ _ _ _ _ hQ hE q
      | false => exact hQ _ _ q
    | _ => exact q
  | deck => exact q) hE h
theorem monoOrV (m : MonoE t) (n : MonoE u) : MonoE (dOrV t u) := fun ρ Q Q' E E' hQ hE h => m ρ _ _ _ _ (fun v ρ' q => by
  cases v with
  | d x =>
    cases x with
    | bool b =>
      cases b with
      | false => exact n _ _ _ _ _ hQ hE q
      | true => exact hQ _ _ q
    | _ => exact q
  | deck => exact q) hE h
theorem monoNotV (m : MonoE t) : MonoE (dNotV t) := fun ρ Q Q' E E' hQ hE h => m ρ _ _ _ _ (fun v ρ' q => by
  cases v with
  | d x => cases x <;> first | exact hQ _ _ q | exact q
  | deck => exact q) hE h
theorem monoNil : MonoA dNil := fun ρ Q Q' E E' hQ _ h => hQ _ _ h
theorem monoCons (m : MonoE t) (n : MonoA a) : MonoA (dCons t a) := fun ρ Q Q' E E' hQ hE h => m ρ _ _ _ _ (fun v ρ' q => n _ _ _ _ _ (fun vs ρ'' q => hQ _ _ q) hE q) hE h
theorem monoTup (m : MonoA a) : MonoE (dTup a) := fun ρ Q Q' E E' hQ hE h => m ρ _ _ _ _ (fun v ρ' q => by
  cases e : datas v with
  | none => rw [e] at q; exact q
  | some xs => rw [e] at q; exact ⟨q.1, hQ _ _ q.2⟩) hE h
theorem monoLst (m : MonoA a) : MonoE (dLst a) := fun ρ Q Q' E E' hQ hE h => m ρ _ _ _ _ (fun v ρ' q => by
  cases e : datas v with
  | none => rw [e] at q; exact q
  | some xs => rw [e] at q; exact ⟨q.1, hQ _ _ q.2⟩) hE h
end

section
variable {X : Cx} {dk : Dk} {W : WX} {e f g : Expr} {es rest : List Expr} {t u : DTE} {c d : DTT} {a : DTA} {pos : Pos}
theorem repBool {K : PySem.W.Frag} {dk : Dk} {B : Addr → Prop} {H : Hp} {x : V} {b : Bool} (h : RepV K dk B H x (.d (.bool b))) : x = .bl b := by
  cases h
  rfl
theorem repInt {K : PySem.W.Frag} {dk : Dk} {B : Addr → Prop} {H : Hp} {x : V} {b : Int} (h : RepV K dk B H x (.d (.int b))) : x = .int b := by
  cases h
  rfl
theorem repStr {K : PySem.W.Frag} {dk : Dk} {B : Addr → Prop} {H : Hp} {x : V} {b : Str} (h : RepV K dk B H x (.d (.str b))) : x = .str b ∧ b.length ≤ sizeLine := by
  cases h with
  | str _ l => exact ⟨rfl, l⟩
theorem repNone {K : PySem.W.Frag} {dk : Dk} {B : Addr → Prop} {H : Hp} {x : V} (h : RepV K dk B H x (.d .none)) : x = .non := by
  cases h
  rfl

theorem dt_of {r : TT} (h : PT X e (tB (tDE X.K X.mg dk W t))) (m : MonoE t) : DT X dk W e (dTest t) :=
  ⟨PT.imp h fun σ H Q ⟨B, ρ, r, q⟩ => bindE m r q (fun _ _ _ z => z) fun v ρ1 x B1 H1 f l s p => by
    cases v with
    | d y =>
      cases y with
      | bool b => exact ⟨b, repBool p, f B1 H1 l s⟩
      | _ => exact f.elim
    | deck => exact f.elim, monoTest m⟩
theorem dt_val (h : DE X dk W e t) (he : ∀ whole, isTrue e X.env whole = (do let v ← whole; standAt e.pos; holding [v] (truthy v)) := by intro _; rfl) : DT X dk W e (dTest t) := dt_of (r := fun _ _ _ => True) (pt_val h.pe he) h.mono
theorem dt_not (h : DT X dk W e c) : DT X dk W (.UnaryOp .Not e pos) (dNot c) :=
  ⟨PT.imp (pt_not h.pt) fun σ H Q ⟨B, ρ, r, q⟩ => ⟨B, ρ, r, q⟩, monoNot h.mono⟩
theorem dw_and1 (h : DT X dk W e c) : DW X dk W (.BoolOp .And [e] pos) c := ⟨pw_and1 h.pt, h.mono⟩
theorem dw_or1 (h : DT X dk W e c) : DW X dk W (.BoolOp .Or [e] pos) c := ⟨pw_or1 h.pt, h.mono⟩
theorem dw_and (h : DT X dk W e c) (k : DW X dk W (.BoolOp .And (f :: rest) pos) d) : DW X dk W (.BoolOp .And (e :: f :: rest) pos) (dAnd c d) :=
  ⟨PW.imp (pw_and h.pt k.pw) fun σ H Q ⟨B, ρ, r, q⟩ => bindT h.mono r q (fun _ _ _ z => z) fun b ρ1 B1 H1 p l s => by
    cases b with
    | true => exact bindT k.mono l p (fun _ _ _ z => exE.next s z) fun b2 ρ2 B2 H2 p2 l2 s2 => p2 B2 H2 l2 (s.trans s2)
    | false => exact p B1 H1 l s, monoAnd h.mono k.mono⟩
theorem dw_or (h : DT X dk W e c) (k : DW X dk W (.BoolOp .Or (f :: rest) pos) d) : DW X dk W (.BoolOp .Or (e :: f :: rest) pos) (dOr c d) :=
  ⟨PW.imp (pw_or h.pt k.pw) fun σ H Q ⟨B, ρ, r, q⟩ => bindT h.mono r q (fun _ _ _ z => z) fun b ρ1 B1 H1 p l s => by
    cases b with
    | false => exact bindT k.mono l p (fun _ _ _ z => exE.next s z) fun b2 ρ2 B2 H2 p2 l2 s2 => p2 B2 H2 l2 (s.trans s2)
    | true => exact p B1 H1 l s, monoOr h.mono k.mono⟩
theorem dt_w (h : DW X dk W e c) : DT X dk W e c := ⟨h.pw.pt, h.mono⟩
theorem de_ifE (hc : DT X dk W e c) (h1 : DE X dk W f t) (h2 : DE X dk W g u) : DE X dk W (.IfExp e f g pos) (dIfE c t u) :=
  ⟨PE.imp (pe_ifExp hc.pt h1.pe h2.pe) fun σ H Q ⟨B, ρ, r, q⟩ => bindT hc.mono r q (fun _ _ _ z => z) fun b ρ1 B1 H1 p l s => by
    cases b with
    | true => exact bindE h1.mono l p (fun _ _ _ z => exE.next s z) fun v ρ2 x B2 H2 p2 l2 s2 r2 => p2 x B2 H2 l2 (s.trans s2) r2
    | false => exact bindE h2.mono l p (fun _ _ _ z => exE.next s z) fun v ρ2 x B2 H2 p2 l2 s2 r2 => p2 x B2 H2 l2 (s.trans s2) r2, monoIfE hc.mono h1.mono h2.mono⟩
theorem de_one {op} (h : DE X dk W e t) : DE X dk W (.BoolOp op [e] pos) t := ⟨pe_one h.pe, h.mono⟩
theorem de_and (h : DE X dk W e t) (k : DE X dk W (.BoolOp .And (f :: rest) pos) u) : DE X dk W (.BoolOp .And (e :: f :: rest) pos) (dAndV t u) :=
  ⟨PE.imp (pe_and h.pe k.pe) fun σ H Q ⟨B, ρ, r, q⟩ => bindE h.mono r q (fun _ _ _ z => z) fun v ρ1 x B1 H1 p l s rv => by
    cases v with
    | d y =>
      cases y with
      | bool b =>
        refine ⟨b, repBool rv, ?_⟩
        cases b with
        | true => exact bindE k.mono l p (fun _ _ _ z => exE.next s z) fun b2 ρ2 x2 B2 H2 p2 l2 s2 r2 => p2 x2 B2 H2 l2 (s.trans s2) r2
        | false => exact p _ B1 H1 l s (.bool false)
      | _ => exact p.elim
    | deck => exact p.elim, monoAndV h.mono k.mono⟩
theorem de_or (h : DE X dk W e t) (k : DE X dk W (.BoolOp .Or (f :: rest) pos) u) : DE X dk W (.BoolOp .Or (e :: f :: rest) pos) (dOrV t u) :=
  ⟨PE.imp (pe_or h.pe k.pe) fun σ H Q ⟨B, ρ, r, q⟩ => bindE h.mono r q (fun _ _ _ z => z) fun v ρ1 x B1 H1 p l s rv => by
    cases v with
    | d y =>
      cases y with
      | bool b =>
        refine ⟨b, repBool rv, ?_⟩
        cases b with
        | false => exact bindE k.mono l p (fun _ _ _ z => exE.next s z) fun b2 ρ2 x2 B2 H2 p2 l2 s2 r2 => p2 x2 B2 H2 l2 (s.trans s2) r2
        | true => exact p _ B1 H1 l s (.bool true)
      | _ => exact p.elim
    | deck => exact p.elim, monoOrV h.mono k.mono⟩
theorem de_not (h : DE X dk W e t) : DE X dk W (.UnaryOp .Not e pos) (dNotV t) :=
  ⟨PE.imp (pe_not h.pe) fun σ H Q ⟨B, ρ, r, q⟩ => bindE h.mono r q (fun _ _ _ z => z) fun v ρ1 x B1 H1 p l s rv => by
    cases v with
    | d y =>
      cases y with
      | bool b => exact ⟨b, repBool rv, p _ B1 H1 l s (.bool _)⟩
      | _ => exact p.elim
    | deck => exact p.elim, monoNotV h.mono⟩

/-! ### arguments, displays -/
theorem da_nil : DA X dk W [] dNil := ⟨PA.imp pa_nil fun σ H Q ⟨B, ρ, r, q⟩ => q [] B H r Step.refl .nil, monoNil⟩
theorem da_cons (h : DE X dk W e t) (k : DA X dk W es a) (hs : starEach (e :: es) X.env = (false, eval e X.env) :: starEach es X.env := by rfl) : DA X dk W (e :: es) (dCons t a) :=
  ⟨PA.imp (pa_cons h.pe k.pa hs) fun σ H Q ⟨B, ρ, r, q⟩ => bindE h.mono r q (fun _ _ _ z => z) fun v ρ1 x B1 H1 p l s rv =>
    bindA k.mono l p (fun _ _ _ z => exE.next s z) fun vs ρ2 xs B2 H2 p2 l2 s2 r2 => p2 (x :: xs) B2 H2 l2 (s.trans s2) (.cons (rv.step s2 l.UB) r2), monoCons h.mono k.mono⟩
theorem datas_rep {K : PySem.W.Frag} {dk : Dk} {B : Addr → Prop} {H : Hp} : ∀ {vs : List V} {ds : List Val} {xs : List PyData}, RepVs K dk B H vs ds → datas ds = some xs → RepPs K B H vs xs
  | _, _, _, .nil, e => by cases e; exact .nil
  | _, _, _, .cons (d := d) r t, e => by
    cases d with
    | deck => cases e
    | d x =>
      unfold datas at e
      cases e2 : datas _ with
      | none => rw [e2] at e; cases e
      | some ys =>
        rw [e2] at e
        cases e
        exact .cons r (datas_rep t e2)
theorem de_tup {x1} (h : DA X dk W es a) : DE X dk W (.Tuple es x1 pos) (dTup a) :=
  ⟨PE.imp (pe_tup h.pa) fun σ H Q ⟨B, ρ, r, q⟩ => bindA h.mono r q (fun _ _ _ z => z) fun vs ρ1 xs B1 H1 p l s rv => by
    cases e : datas vs with
    | none => rw [e] at p; exact p.elim
    | some ys =>
      rw [e] at p
      have rp := datas_rep rv e
      have hl : xs.length ≤ sizeLine := by rw [rp.length]; exact p.1
      refine ⟨hl, fun np hp => ?_⟩
      obtain ⟨l', s'⟩ := l.grow (Grow.upd (o := .tup xs) hp)
      refine p.2 _ B1 _ l' (s.trans s') ?_
      exact .tuple upd_same (fun b => l.trk _ b hp) hl (RepPs.step s' l.UB rp), monoTup h.mono⟩
theorem de_lst (h : DA X dk W es a) : DE X dk W (.List es pos) (dLst a) :=
  ⟨PE.imp (pe_lst h.pa) fun σ H Q ⟨B, ρ, r, q⟩ => bindA h.mono r q (fun _ _ _ z => z) fun vs ρ1 xs B1 H1 p l s rv => by
    cases e : datas vs with
    | none => rw [e] at p; exact p.elim
    | some ys =>
      rw [e] at p
      have rp := datas_rep rv e
      have hl : xs.length ≤ sizeLine := by rw [rp.length]; exact p.1
      refine ⟨hl, fun np hp => ?_⟩
      obtain ⟨l', s'⟩ := l.grow (Grow.upd (o := .lst xs) hp)
      refine p.2 _ B1 _ l' (s.trans s') ?_
      exact .list upd_same (fun b => l.trk _ b hp) hl (RepPs.step s' l.UB rp), monoLst h.mono⟩
end

/-! ### operators by values -/
abbrev DOp2 := Val → Val → (Val → Prop) → Prop
structure OpS (K : PySem.W.Frag) (dk : Dk) (f : DOp2) (r : R2) : Prop where
  mono : ∀ v u Q Q', (∀ z, Q z → Q' z) → f v u Q → f v u Q'
  run : ∀ (B : Addr → Prop) (H : Hp) (x y : V) (v u : Val) (Q : VK), (∀ a, B a → H a ≠ none) → RepV K dk B H x v → RepV K dk B H y u →
    f v u (fun z => ∀ w H', Grow H H' → RepV K dk B H' w z → Q w H') → r x y H Q
def dOp (f : DOp2) (t u : DTE) : DTE := fun ρ Q E => t ρ (fun v ρ1 => u ρ1 (fun w ρ2 => f v w (fun z => Q z ρ2)) E) E
/-- by the trees alone -/
def fOp (f : PyData → PyData → Option PyData) : DOp2 := fun v u Q => match v, u with
  | .d a, .d b => match f a b with
    | some c => Q (.d c)
    | none => False
  | _, _ => False
theorem fOp_mono {f : PyData → PyData → Option PyData} : ∀ v u Q Q', (∀ z, Q z → Q' z) → fOp f v u Q → fOp f v u Q' := fun v u Q Q' hQ h => by
  cases v with
  | deck => exact h
  | d a =>
    cases u with
    | deck => exact h
    | d b =>
      show match f a b with
        | some c => Q' (.d c)
        | none => False
      have h : match f a b with
        | some c => Q (.d c)
        | none => False := h
      cases e : f a b with
      | none => rw [e] at h; exact h
      | some c => rw [e] at h; exact hQ _ h
theorem fOp_inv {f : PyData → PyData → Option PyData} {v u : Val} {Q : Val → Prop} (h : fOp f v u Q) : ∃ a b c, v = .d a ∧ u = .d b ∧ f a b = some c ∧ Q (.d c) := by
  cases v with
  | deck => exact h.elim
  | d a =>
    cases u with
    | deck => exact h.elim
    | d b =>
      have h : match f a b with
        | some c => Q (.d c)
        | none => False := h
      cases e : f a b with
      | none => rw [e] at h; exact h.elim
      | some c => rw [e] at h; exact ⟨a, b, c, rfl, rfl, e, h⟩
theorem monoOp {f : DOp2} {t u : DTE} (hf : ∀ v u Q Q', (∀ z, Q z → Q' z) → f v u Q → f v u Q') (m : MonoE t) (n : MonoE u) : MonoE (dOp f t u) := fun ρ Q Q' E E' hQ hE h =>
  m ρ _ _ _ _ (fun v ρ' q => n _ _ _ _ _ (fun w ρ'' q => hf _ _ _ _ (fun z q => hQ _ _ q) q) hE q) hE h
section
variable {X : Cx} {dk : Dk} {W : WX} {e f g : Expr} {t u w : DTE} {pos : Pos} {k : DOp2} {r : R2}
theorem op2_core (hk : OpS X.K dk k r) (m : MonoE t) (n : MonoE u) {σ : L2.St} {H : Hp} {Q : VK} (h : tDE X.K X.mg dk W (dOp k t u) σ H Q) : tOp r (tDE X.K X.mg dk W t) (tDE X.K X.mg dk W u) σ H Q := by
  obtain ⟨B, ρ, r0, q⟩ := h
  exact bindE m r0 q (fun _ _ _ z => z) fun v ρ1 x B1 H1 p l s rv =>
    bindE n l p (fun _ _ _ z => exE.next s z) fun v2 ρ2 y B2 H2 p2 l2 s2 r2 =>
      hk.run B2 H2 x y v v2 Q l2.trk (rv.step s2 l.UB) r2 (hk.mono _ _ _ _ (fun z pz w' H' g rw' => by
        obtain ⟨l', s'⟩ := l2.grow g
        exact pz w' B2 H' l' ((s.trans s2).trans s') rw') p2)
theorem de_op {op : Operator} (ho : OpR X (binaryOp op) r) (hk : OpS X.K dk k r) (h1 : DE X dk W e t) (h2 : DE X dk W f u) : DE X dk W (.BinOp e op f pos) (dOp k t u) :=
  ⟨PE.imp (pe_op ho h1.pe h2.pe) fun σ H Q h => op2_core hk h1.mono h2.mono h, monoOp hk.mono h1.mono h2.mono⟩
theorem de_cmp {op : CmpOp} (ho : OpR X (compareOp op) r) (hk : OpS X.K dk k r) (h1 : DE X dk W e t) (h2 : DE X dk W f u) (hm : behindInMarks op f = false := by first | exact nobehind _ (by decide) (by decide) | rfl) : DE X dk W (.Compare e [op] [f] pos) (dOp k t u) :=
  ⟨PE.imp (pe_cmpR ho h1.pe h2.pe hm) fun σ H Q h => op2_core hk h1.mono h2.mono h, monoOp hk.mono h1.mono h2.mono⟩
theorem test_core {t : DTE} (m : MonoE t) {σ : L2.St} {H : Hp} {Q : Bool → Hp → Prop} (h : tDT X.K X.mg dk W (dTest t) σ H Q) : tDE X.K X.mg dk W t σ H fun x H' => ∃ k, x = .bl k ∧ Q k H' := by
  obtain ⟨B, ρ, r, q⟩ := h
  exact bindE m r q (fun _ _ _ z => z) fun v ρ1 x B1 H1 f l s p => by
    cases v with
    | d y =>
      cases y with
      | bool b => exact ⟨b, repBool p, f B1 H1 l s⟩
      | _ => exact f.elim
    | deck => exact f.elim
theorem dt_cmp {op : CmpOp} (ho : OpR X (compareOp op) r) (hk : OpS X.K dk k r) (h1 : DE X dk W e t) (h2 : DE X dk W f u) (hm : behindInMarks op f = false := by first | exact nobehind _ (by decide) (by decide) | rfl) : DT X dk W (.Compare e [op] [f] pos) (dTest (dOp k t u)) :=
  ⟨PT.imp (pt_cmpR ho h1.pe h2.pe hm) fun σ H Q h => op2_core hk h1.mono h2.mono (test_core (monoOp hk.mono h1.mono h2.mono) h), monoTest (monoOp hk.mono h1.mono h2.mono)⟩

/-! ### a chain of two comparisons -/
def dChain (k1 k2 : DOp2) (t u w : DTE) : DTE := fun ρ Q E => t ρ (fun v ρ1 => u ρ1 (fun y ρ2 => k1 v y (fun z => match z with
  | .d (.bool b) => if b = true then w ρ2 (fun x ρ3 => k2 y x (fun z => Q z ρ3)) E else Q (.d (.bool false)) ρ2
  | _ => False)) E) E
variable {k' : DOp2} {r' : R2}
theorem monoChain (hf : ∀ v u Q Q', (∀ z, Q z → Q' z) → k v u Q → k v u Q') (hf' : ∀ v u Q Q', (∀ z, Q z → Q' z) → k' v u Q → k' v u Q') (m : MonoE t) (n : MonoE u) (l : MonoE w) : MonoE (dChain k k' t u w) := fun ρ Q Q' E E' hQ hE h =>
  m ρ _ _ _ _ (fun v ρ' q => n _ _ _ _ _ (fun y ρ2 q => hf _ _ _ _ (fun z q => by
    cases z with
    | d z =>
      cases z with
      | bool b =>
        cases b with
        | true => exact l _ _ _ _ _ (fun x ρ3 q => hf' _ _ _ _ (fun z q => hQ _ _ q) q) hE q
        | false => exact hQ _ _ q
      | _ => exact q
    | deck => exact q) q) hE q) hE h
theorem chain_core (hk : OpS X.K dk k r) (hk' : OpS X.K dk k' r') (m : MonoE t) (n : MonoE u) (m3 : MonoE w) {σ : L2.St} {H : Hp} {Q : VK} (h : tDE X.K X.mg dk W (dChain k k' t u w) σ H Q) : tChain r r' (tDE X.K X.mg dk W t) (tDE X.K X.mg dk W u) (tDE X.K X.mg dk W w) σ H Q := by
  obtain ⟨B, ρ, r0, q⟩ := h
  exact bindE m r0 q (fun _ _ _ z => z) fun v ρ1 x B1 H1 p l s rv =>
    bindE n l p (fun _ _ _ z => exE.next s z) fun v2 ρ2 y B2 H2 p2 l2 s2 r2 => by
      refine hk.run B2 H2 x y v v2 _ l2.trk (rv.step s2 l.UB) r2 (hk.mono _ _ _ _ (fun z pz w' H' g rw' => ?_) p2)
      obtain ⟨l', s'⟩ := l2.grow g
      cases z with
      | deck => exact pz.elim
      | d z =>
        cases z with
        | bool b =>
          refine ⟨b, repBool rw', ?_⟩
          cases b with
          | true =>
            exact bindE m3 l' pz (fun _ _ _ z => exE.next ((s.trans s2).trans s') z) fun v3 ρ3 x3 B3 H3 p3 l3 s3 r3 =>
              hk'.run B3 H3 y x3 v2 v3 Q l3.trk ((r2.step s' l2.UB).step s3 l'.UB) r3 (hk'.mono _ _ _ _ (fun z pz w'' H'' g' rw'' => by
                obtain ⟨l4, s4⟩ := l3.grow g'
                exact pz w'' B3 H'' l4 ((((s.trans s2).trans s').trans s3).trans s4) rw'') p3)
          | false => exact pz _ B2 H' l' ((s.trans s2).trans s') (.bool false)
        | _ => exact pz.elim
theorem de_chain {op op' : CmpOp} (ho : OpR X (compareOp op) r) (hk : OpS X.K dk k r) (ho' : OpR X (compareOp op') r') (hk' : OpS X.K dk k' r') (h1 : DE X dk W e t) (h2 : DE X dk W f u) (h3 : DE X dk W g w)
    (hm : lastMarks [op, op'] [f, g] = false := by with_unfolding_all rfl) : DE X dk W (.Compare e [op, op'] [f, g] pos) (dChain k k' t u w) :=
  ⟨PE.imp (pe_chain ho ho' h1.pe h2.pe h3.pe hm) fun σ H Q h => chain_core hk hk' h1.mono h2.mono h3.mono h, monoChain hk.mono hk'.mono h1.mono h2.mono h3.mono⟩
theorem dt_chain {op op' : CmpOp} (ho : OpR X (compareOp op) r) (hk : OpS X.K dk k r) (ho' : OpR X (compareOp op') r') (hk' : OpS X.K dk k' r') (h1 : DE X dk W e t) (h2 : DE X dk W f u) (h3 : DE X dk W g w)
    (hm : lastMarks [op, op'] [f, g] = false := by with_unfolding_all rfl) : DT X dk W (.Compare e [op, op'] [f, g] pos) (dTest (dChain k k' t u w)) :=
  ⟨PT.imp (pt_chain ho ho' h1.pe h2.pe h3.pe hm) fun σ H Q h => chain_core hk hk' h1.mono h2.mono h3.mono (test_core (monoChain hk.mono hk'.mono h1.mono h2.mono h3.mono) h), monoTest (monoChain hk.mono hk'.mono h1.mono h2.mono h3.mono)⟩

/-! ### one operand -/
def dUn (f : Val → (Val → Prop) → Prop) (t : DTE) : DTE := fun ρ Q E => t ρ (fun v ρ1 => f v (fun z => Q z ρ1)) E
def fNeg : Val → (Val → Prop) → Prop := fun v Q => match v with
  | .d (.int i) => Q (.d (.int (-i)))
  | _ => False
theorem de_neg (h : DE X dk W e t) : DE X dk W (.UnaryOp .USub e pos) (dUn fNeg t) :=
  ⟨PE.imp (pe_un un_neg h.pe) fun σ H Q ⟨B, ρ, r0, q⟩ => bindE h.mono r0 q (fun _ _ _ z => z) fun v ρ1 x B1 H1 p l s rv => by
    cases v with
    | d y =>
      cases y with
      | int i => exact ⟨i, repInt rv, p _ B1 H1 l s (.int _)⟩
      | _ => exact p.elim
    | deck => exact p.elim, fun ρ Q Q' E E' hQ hE q => h.mono ρ _ _ _ _ (fun v ρ' q => by
    cases v with
    | d y => cases y <;> first | exact hQ _ _ q | exact q
    | deck => exact q) hE q⟩
end

/-! ### the operators -/
section
variable {K : PySem.W.Frag} {dk : Dk}
theorem OpS.or {f g : DOp2} {r r' : R2} (a : OpS K dk f r) (b : OpS K dk g r') : OpS K dk (fun v u Q => f v u Q ∨ g v u Q) (fun x y H Q => r x y H Q ∨ r' x y H Q) :=
  ⟨fun v u Q Q' hQ h => h.imp (a.mono v u Q Q' hQ) (b.mono v u Q Q' hQ), fun B H x y v u Q ht rx ry h => h.imp (a.run B H x y v u Q ht rx ry) (b.run B H x y v u Q ht rx ry)⟩
/-- two ints in, under C -/
def fI (C : Int → Int → Prop) (g : Int → Int → PyData) : DOp2 := fun v u Q => match v, u with
  | .d (.int i), .d (.int j) => C i j ∧ Q (.d (g i j))
  | _, _ => False
theorem fI_mono {C : Int → Int → Prop} {g : Int → Int → PyData} : ∀ v u Q Q', (∀ z, Q z → Q' z) → fI C g v u Q → fI C g v u Q' := fun v u Q Q' hQ h => by
  cases v with
  | deck => exact h
  | d a =>
    cases u with
    | deck => cases a <;> exact h
    | d b =>
      cases a with
      | int i =>
        cases b with
        | int j => exact ⟨h.1, hQ _ h.2⟩
        | _ => exact h
      | _ => exact h
theorem ops_int {C : Int → Int → Prop} {g : Int → Int → Int} : OpS K dk (fI C fun i j => .int (g i j)) (rI C fun i j => .int (g i j)) :=
  ⟨fI_mono, fun B H x y v u Q ht rx ry h => by
    unfold fI at h
    split at h
    · rename_i i j
      exact ⟨i, j, repInt rx, repInt ry, h.1, h.2 _ H (Grow.refl H) (.int _)⟩
    · exact h.elim⟩
theorem ops_int0 {g : Int → Int → Int} : OpS K dk (fI (fun _ _ => True) fun i j => .int (g i j)) (rI0 fun i j => .int (g i j)) :=
  ⟨fI_mono, fun B H x y v u Q ht rx ry h => by
    unfold fI at h
    split at h
    · rename_i i j
      exact ⟨i, j, repInt rx, repInt ry, h.2 _ H (Grow.refl H) (.int _)⟩
    · exact h.elim⟩
theorem ops_intB {g : Int → Int → Bool} : OpS K dk (fI (fun _ _ => True) fun i j => .bool (g i j)) (rI0 fun i j => .bl (g i j)) :=
  ⟨fI_mono, fun B H x y v u Q ht rx ry h => by
    unfold fI at h
    split at h
    · rename_i i j
      exact ⟨i, j, repInt rx, repInt ry, h.2 _ H (Grow.refl H) (.bool _)⟩
    · exact h.elim⟩
end
end DL
set_option maxHeartbeats 4000000
/-! D4: items, slices, +, ==, in; built-in functions by values; methods by values. -/
namespace DL
open PySem PySem.Spec
open PyProof.Rows hiding St
open L2

section
variable {K : PySem.W.Frag} {dk : Dk} {B : Addr → Prop} {H : Hp}
theorem KTup.sq {a : Addr} {vs : List V} (h : KTup K a vs) : SqT K H a vs := .inr h
/-- a tuple that is read -/
theorem repTup {x : V} {xs : List PyData} (h : RepV K dk B H x (.d (.tuple xs))) : ∃ a vs, x = .ref a ∧ SqT K H a vs ∧ RepPs K B H vs xs ∧ vs.length ≤ sizeLine := by
  cases h with
  | tuple h1 h2 h3 h4 => exact ⟨_, _, rfl, .inl (.inl h1), h4, h3⟩
  | tupleK h1 h4 =>
    refine ⟨_, _, rfl, .inr h1, h4, ?_⟩
    obtain ⟨_, its, _, _, _, _, hz, r⟩ := h1
    have e := r.length
    simp only [Array.length_toList] at e
    omega
theorem repLst {x : V} {xs : List PyData} (h : RepV K dk B H x (.d (.list xs))) : ∃ a vs, x = .ref a ∧ H a = some (.lst vs) ∧ ¬ B a ∧ RepPs K B H vs xs ∧ vs.length ≤ sizeLine := by
  cases h with
  | list h1 h2 h3 h4 => exact ⟨_, _, rfl, h1, h2, h4, h3⟩
theorem repDct {x : V} {xs : List (PyData × PyData)} (h : RepV K dk B H x (.d (.dict xs))) : ∃ a vs, x = .ref a ∧ H a = some (.dK vs) ∧ ¬ B a ∧ RepKs K B H vs xs ∧ vs.length ≤ sizeLine := by
  cases h with
  | dict h1 h2 h3 h4 => exact ⟨_, _, rfl, h1, h2, h4, h3⟩
theorem RepPs.at {vs : List V} {xs : List PyData} {i : Int} {x : PyData} (r : RepPs K B H vs xs) (h : atI xs i = some x) : ∃ v, atI vs i = some v ∧ RepP K B H v x := by
  unfold atI at h ⊢
  rw [r.length]
  cases e : ixN xs.length i with
  | none => rw [e] at h; cases h
  | some j =>
    rw [e] at h
    exact r.get j h
/-- a new tuple, a new list -/
theorem newTup {p : Addr} {vs : List V} {xs : List PyData} (ht : ∀ a, B a → H a ≠ none) (hp : H p = none) (r : RepPs K B H vs xs) (hl : vs.length ≤ sizeLine) : RepP K B (upd H p (.tup vs)) (.ref p) (.tuple xs) := by
  have s : Step (fun _ => False) B H (fun _ => False) B (upd H p (.tup vs)) := ⟨fun a o h _ _ => Grow.upd hp a o h, fun a h => by
    by_cases e : a = p
    · rw [e, upd_same]; simp
    · rw [upd_ne e]; exact h, fun _ h _ _ => h, fun _ h => .inl h, fun _ h => .inl h⟩
  exact .tuple upd_same (fun b => ht _ b hp) hl (RepPs.step s (fun _ z => z.elim) r)
theorem newLst {p : Addr} {vs : List V} {xs : List PyData} (ht : ∀ a, B a → H a ≠ none) (hp : H p = none) (r : RepPs K B H vs xs) (hl : vs.length ≤ sizeLine) : RepP K B (upd H p (.lst vs)) (.ref p) (.list xs) := by
  have s : Step (fun _ => False) B H (fun _ => False) B (upd H p (.lst vs)) := ⟨fun a o h _ _ => Grow.upd hp a o h, fun a h => by
    by_cases e : a = p
    · rw [e, upd_same]; simp
    · rw [upd_ne e]; exact h, fun _ h _ _ => h, fun _ h => .inl h, fun _ h => .inl h⟩
  exact .list upd_same (fun b => ht _ b hp) hl (RepPs.step s (fun _ z => z.elim) r)

/-! ### items -/
def itemOf : PyData → PyData → Option PyData
  | .tuple xs, .int i => atI xs i
  | .list xs, .int i => atI xs i
  | .str z, .int i => (atI z.cps.toList i).map fun c => .str ⟨#[c]⟩
  | _, _ => none
theorem ops_ix : OpS K dk (fOp itemOf) (rIx K) := ⟨fOp_mono, fun B H x y v u Q ht rx ry h => by
  obtain ⟨a, b, c, rfl, rfl, e, q⟩ := fOp_inv h
  cases b with
  | int i =>
    cases a with
    | tuple xs =>
      obtain ⟨p, vs, rfl, hs, rp, hl⟩ := repTup rx
      obtain ⟨w, hw, rw'⟩ := rp.at e
      exact .inr (.inl ⟨p, vs, i, w, rfl, repInt ry, hs, hw, q w H (Grow.refl H) rw'⟩)
    | list xs =>
      obtain ⟨p, vs, rfl, hs, _, rp, hl⟩ := repLst rx
      obtain ⟨w, hw, rw'⟩ := rp.at e
      exact .inl ⟨p, vs, i, w, rfl, repInt ry, .inl (.inl hs), hw, q w H (Grow.refl H) rw'⟩
    | str z =>
      obtain ⟨rfl, hl⟩ := repStr rx
      have e : (atI z.cps.toList i).map (fun c => PyData.str ⟨#[c]⟩) = some c := e
      cases e2 : atI z.cps.toList i with
      | none => rw [e2] at e; cases e
      | some k =>
        rw [e2] at e
        cases e
        exact .inr (.inr ⟨z, i, k, rfl, repInt ry, hl, e2, q _ H (Grow.refl H) (.str _ (by show 1 ≤ sizeLine; decide))⟩)
    | _ => cases e
  | _ => cases a <;> cases e⟩

/-! ### slices -/
def cutL {α : Type} (xs : List α) (lo hi : Option Int) : List α := (xs.drop (HT.sIx xs.length 0 lo)).take (HT.sIx xs.length xs.length hi - HT.sIx xs.length 0 lo)
def sliceOf : PyData → Option Int → Option Int → Option PyData
  | .tuple xs, lo, hi => some (.tuple (cutL xs lo hi))
  | .list xs, lo, hi => some (.list (cutL xs lo hi))
  | .str z, lo, hi => some (.str (cutS z lo hi))
  | _, _, _ => none
abbrev DTO := Env → (Option Int → Env → Prop) → XQ → Prop
def dNoPart : DTO := fun ρ Q _ => Q none ρ
def dPart (t : DTE) : DTO := fun ρ Q E => t ρ (fun v ρ' => match v with
  | .d (.int i) => Q (some i) ρ'
  | _ => False) E
def dSl (t : DTE) (lo hi : DTO) : DTE := fun ρ Q E => t ρ (fun v ρ1 => lo ρ1 (fun l ρ2 => hi ρ2 (fun u ρ3 => match v with
  | .d x => match sliceOf x l u with
    | some y => Q (.d y) ρ3
    | none => False
  | _ => False) E) E) E
def MonoO (t : DTO) : Prop := ∀ ρ Q Q' (E E' : XQ), (∀ v ρ', Q v ρ' → Q' v ρ') → (∀ c th ρ', E c th ρ' → E' c th ρ') → t ρ Q E → t ρ Q' E'
end

def okO (K : PySem.W.Frag) (dk : Dk) (Q : Option Int → Hp → Prop) (B : Addr → Prop) (H : Hp) (σ : L2.St) (ρ : Env) : Option Int → Env → Prop := fun b ρ' => ∀ (B' : Addr → Prop) (H' : Hp), Rel K dk B' H' σ ρ' → Step (UU dk σ ρ) B H (UU dk σ ρ') B' H' → Q b H'
def tDO (K : PySem.W.Frag) (mg : Str → Option Value) (dk : Dk) (W : WX) (t : DTO) : TO := fun σ H Q => ∃ (B : Addr → Prop) (ρ : Env), Rel K dk B H σ ρ ∧ t ρ (okO K dk Q B H σ ρ) (exE K mg dk W B H σ ρ)
structure DO (X : Cx) (dk : Dk) (W : WX) (e : Option Expr) (t : DTO) : Prop where
  po : PO X e (tDO X.K X.mg dk W t)
  mono : MonoO t
theorem PO.imp {X : Cx} {e : Option Expr} {t t' : TO} (h : PO X e t) (i : ∀ σ H Q, t' σ H Q → t σ H Q) : PO X e t' := ⟨fun pins s σ H Q I q => h.run pins s σ H Q I (i _ _ _ q)⟩
section
variable {X : Cx} {dk : Dk} {W : WX} {e f g : Expr} {t u w : DTE} {pos p2 : Pos} {lo hi : Option Expr} {tl th : DTO}
theorem do_none : DO X dk W none dNoPart := ⟨PO.imp po_none fun σ H Q ⟨B, ρ, r, q⟩ => q B H r Step.refl, fun ρ Q Q' E E' hQ _ h => hQ _ _ h⟩
theorem do_some (h : DE X dk W e t) : DO X dk W (some e) (dPart t) := ⟨PO.imp (po_some h.pe) fun σ H Q ⟨B, ρ, r, q⟩ => bindE h.mono r q (fun _ _ _ z => z) fun v ρ1 x B1 H1 p l s rv => by
    cases v with
    | d y =>
      cases y with
      | int i => exact ⟨i, repInt rv, p B1 H1 l s⟩
      | _ => exact p.elim
    | deck => exact p.elim, fun ρ Q Q' E E' hQ hE q => h.mono ρ _ _ _ _ (fun v ρ' q => by
    cases v with
    | d y => cases y <;> first | exact hQ _ _ q | exact q
    | deck => exact q) hE q⟩
theorem cut_rep {K : PySem.W.Frag} {B : Addr → Prop} {H : Hp} {vs : List V} {xs : List PyData} (r : RepPs K B H vs xs) (lo hi : Option Int) : RepPs K B H (cutV vs lo hi) (cutL xs lo hi) := by
  unfold cutV cutL
  rw [r.length]
  exact (r.drop _).take _
theorem cut_all {α : Type} {xs : List α} {lo hi : Option Int} (h : HT.sIx xs.length 0 lo = 0 ∧ HT.sIx xs.length xs.length hi = xs.length) : cutL xs lo hi = xs := by
  unfold cutL
  rw [h.1, h.2]
  simp
theorem de_slice (h : DE X dk W e t) (hl : DO X dk W lo tl) (hh : DO X dk W hi th) : DE X dk W (.Subscript e (.Slice lo hi none p2) pos) (dSl t tl th) := by
  refine ⟨PE.imp (pe_slice (SlR.or sl_tupA (SlR.or sl_list sl_str)) h.pe hl.po hh.po) fun σ H Q ⟨B, ρ, r, q⟩ => bindE h.mono r q (fun _ _ _ z => z) fun v ρ1 x B1 H1 p l s rv =>
    ⟨B1, ρ1, l, hl.mono _ _ _ _ _ (fun a ρ2 p2 B2 H2 l2 s2 => ⟨B2, ρ2, l2, hh.mono _ _ _ _ _ (fun b ρ3 p3 B3 H3 l3 s3 => ?_) (fun _ _ _ z => exE.next (s.trans s2) z) p2⟩) (fun _ _ _ z => exE.next s z) p⟩, fun ρ Q Q' E E' hQ hE q => h.mono ρ _ _ _ _ (fun v ρ1 q => hl.mono _ _ _ _ _ (fun a ρ2 q => hh.mono _ _ _ _ _ (fun b ρ3 q => ?_) hE q) hE q) hE q⟩
  · have rv3 := (rv.step s2 l.UB).step s3 l2.UB
    have ss := (s.trans s2).trans s3
    cases v with
    | deck => exact p3.elim
    | d y =>
      cases y with
      | tuple xs =>
        obtain ⟨pa, vs, rfl, hs, rp, hz⟩ := repTup rv3
        refine .inl ⟨pa, vs, rfl, hs, fun hw => ?_, fun hw np hp => ?_⟩
        · refine p3 _ B3 H3 l3 ss ?_
          show RepV _ _ _ _ _ (.d (.tuple (cutL xs a b)))
          rw [rp.length] at hw
          rw [cut_all hw]
          exact rv3
        · obtain ⟨l', s'⟩ := l3.grow (Grow.upd (o := .tup (cutV vs a b)) hp)
          exact p3 _ B3 _ l' (ss.trans s') (newTup l3.trk hp (cut_rep rp a b) (Nat.le_trans (cutV_length vs a b) hz))
      | list xs =>
        obtain ⟨pa, vs, rfl, hs, _, rp, hz⟩ := repLst rv3
        refine .inr (.inl ⟨pa, vs, rfl, .inl (.inl hs), fun np hp => ?_⟩)
        obtain ⟨l', s'⟩ := l3.grow (Grow.upd (o := .lst (cutV vs a b)) hp)
        exact p3 _ B3 _ l' (ss.trans s') (newLst l3.trk hp (cut_rep rp a b) (Nat.le_trans (cutV_length vs a b) hz))
      | str z =>
        obtain ⟨rfl, hz⟩ := repStr rv3
        refine .inr (.inr ⟨z, rfl, hz, p3 _ B3 H3 l3 ss (.str _ (Nat.le_trans ?_ hz))⟩)
        unfold cutS
        show (List.toArray _).size ≤ z.cps.size
        rw [List.size_toArray, List.length_take, List.length_drop, Array.length_toList]
        omega
      | _ => exact p3.elim
  · cases v with
    | deck => exact q
    | d y =>
      cases y <;> first | exact hQ _ _ q | exact q
end

/-! ### built-in functions by values -/
abbrev DFn := List Val → (Val → Prop) → Prop
structure BuiS (K : PySem.W.Frag) (dk : Dk) (f : DFn) (r : List V → Hp → VK → Prop) : Prop where
  mono : ∀ v Q Q', (∀ z, Q z → Q' z) → f v Q → f v Q'
  run : ∀ (B : Addr → Prop) (H : Hp) (xs : List V) (v : List Val) (Q : VK), (∀ a, B a → H a ≠ none) → RepVs K dk B H xs v →
    f v (fun z => ∀ w H', Grow H H' → RepV K dk B H' w z → Q w H') → r xs H Q
def dBui (f : DFn) (t : DTA) : DTE := fun ρ Q E => t ρ (fun v ρ1 => f v (fun z => Q z ρ1)) E
section
variable {X : Cx} {dk : Dk} {W : WX} {e f g : Expr} {es : List Expr} {t u w : DTE} {a : DTA} {pos p : Pos} {k : DFn} {r : List V → Hp → VK → Prop} {x : Str} {id T : String}
theorem bui_core (hk : BuiS X.K dk k r) (m : MonoA a) {σ : L2.St} {H : Hp} {Q : VK} (h : tDE X.K X.mg dk W (dBui k a) σ H Q) : tCB r (tDA X.K X.mg dk W a) σ H Q := by
  obtain ⟨B, ρ, r0, q⟩ := h
  exact bindA m r0 q (fun _ _ _ z => z) fun v ρ1 xs B1 H1 p l s rv =>
    hk.run B1 H1 xs v Q l.trk rv (hk.mono _ _ _ (fun z pz w' H' g rw' => by
      obtain ⟨l', s'⟩ := l.grow g
      exact pz w' B1 H' l' (s.trans s') rw') p)
theorem monoBui (hf : ∀ v Q Q', (∀ z, Q z → Q' z) → k v Q → k v Q') (m : MonoA a) : MonoE (dBui k a) := fun ρ Q Q' E E' hQ hE h => m ρ _ _ _ _ (fun v ρ' q => hf _ _ _ (fun z q => hQ _ _ q) q) hE h
theorem de_callB (hc : CallR X (.builtin id) r) (hk : BuiS X.K dk k r) (hg : Gl X x) (hm : X.mg x = none) (hv : bootBuiltins x = some (.builtin id)) (ha : DA X dk W (e :: es) a) (hn : x ≠ "__name__" := by decide) (hdb : (x == ("__debug__" : Str)) = false := by decide)
    (he : starEach (e :: es) X.env = (false, eval e X.env) :: starEach es X.env := by rfl) (hpl : (backTo pos (starEach es X.env)).any (·.1) = false := by rfl) : DE X dk W (.Call (.Name x p) (e :: es) [] pos) (dBui k a) :=
  ⟨PE.imp (pe_callB hc hg hm hv ha.pa hn hdb he hpl) fun σ H Q h => bui_core hk ha.mono h, monoBui hk.mono ha.mono⟩
theorem de_callTy (hc : CallR X (.type T) r) (hk : BuiS X.K dk k r) (hg : Gl X x) (hm : X.mg x = none) (hv : bootBuiltins x = some (.type T)) (ha : DA X dk W (e :: es) a) (hn : x ≠ "__name__" := by decide) (hdb : (x == ("__debug__" : Str)) = false := by decide)
    (he : starEach (e :: es) X.env = (false, eval e X.env) :: starEach es X.env := by rfl) (hpl : (backTo pos (starEach es X.env)).any (·.1) = false := by rfl) : DE X dk W (.Call (.Name x p) (e :: es) [] pos) (dBui k a) :=
  ⟨PE.imp (pe_callTy hc hg hm hv ha.pa hn hdb he hpl) fun σ H Q h => bui_core hk ha.mono h, monoBui hk.mono ha.mono⟩
theorem de_callBfun (hc : CallR X (.builtin id) r) (hk : BuiS X.K dk k r) (hg : Gl X x) (hm : X.mg x = some (.builtin id)) (ha : DA X dk W (e :: es) a) (hdb : (x == ("__debug__" : Str)) = false := by decide)
    (he : starEach (e :: es) X.env = (false, eval e X.env) :: starEach es X.env := by rfl) (hpl : (backTo pos (starEach es X.env)).any (·.1) = false := by rfl) : DE X dk W (.Call (.Name x p) (e :: es) [] pos) (dBui k a) :=
  ⟨PE.imp (pe_callBfun hc hg hm ha.pa hdb he hpl) fun σ H Q h => bui_core hk ha.mono h, monoBui hk.mono ha.mono⟩
end
end DL
set_option maxHeartbeats 4000000
/-! D5: the operators and built-in functions, one by one. -/
namespace DL
open PySem PySem.Spec
open PyProof.Rows hiding St
open L2

/-! ### arithmetic -/
def MulC (i j : Int) : Prop := i.natAbs < 2 ^ 64 ∨ j.natAbs < 2 ^ 64 ∨ i.natAbs.log2 + j.natAbs.log2 < 1000000
def DivC (i j : Int) : Prop := (j ≠ 0 ∧ j.natAbs < 1073741824) ∨ (0 < j ∧ j.natAbs.log2 < 9000)
def ShlC (i j : Int) : Prop := 0 ≤ j ∧ (i.natAbs.log2 : Int) + 1 + j ≤ 134217728
section
variable {X : Cx} {K : PySem.W.Frag} {dk : Dk}
theorem MulC.ok {i j : Int} (h : MulC i j) : IntMulOk i j := by
  rcases h with h | h | h
  · exact CMul.ok (.inl ⟨by omega, by omega⟩)
  · exact CMul.ok (.inr ⟨by omega, by omega⟩)
  · exact CMulW.ok h
theorem opr_mul : OpR X (binaryOp .Mult) (rI MulC fun i j => .int (i * j)) := opI fun _ _ _ _ _ _ _ hc q => mul_int q hc.ok
theorem opr_div : OpR X (binaryOp .FloorDiv) (rI DivC fun i j => .int (i.fdiv j)) := opI fun i j _ _ _ _ _ hc q => by
  rcases hc with ⟨h1, h2⟩ | ⟨h1, h2⟩
  · exact floordiv_int h1 q (.inl (PyProof.noPylong_small h2))
  · exact floordiv_int (by omega) q (.inl (PyProof.noPylong_of_log2 h2))
theorem opr_mod : OpR X (binaryOp .Mod) (rI (fun _ j => j ≠ 0) fun i j => .int (i.fmod j)) := op_modN
theorem opr_shl : OpR X (binaryOp .LShift) (rI ShlC fun i j => .int (i * 2 ^ j.toNat)) := opI fun i j _ _ _ _ _ hc q => lshift_int hc.1 (by
  have b : Builtin.Int.intBits i ≤ i.natAbs.log2 + 1 := by
    unfold Builtin.Int.intBits
    split <;> omega
  have := hc.2
  have e : (2 ^ 27 : Int) = 134217728 := by decide
  omega) q

abbrev fSub : DOp2 := fI (fun _ _ => True) fun i j => .int (i - j)
abbrev fDiv : DOp2 := fI DivC fun i j => .int (i.fdiv j)
abbrev fMod : DOp2 := fI (fun _ j => j ≠ 0) fun i j => .int (i.fmod j)
abbrev fPow : DOp2 := fI CPow fun i j => .int (i ^ j.toNat)
abbrev fShl : DOp2 := fI ShlC fun i j => .int (i * 2 ^ j.toNat)
abbrev fShr : DOp2 := fI (fun _ j => 0 ≤ j) fun i j => .int (i / 2 ^ j.toNat)
abbrev fBAnd : DOp2 := fI (fun _ _ => True) fun i j => .int (Builtin.bitAnd i j)
abbrev fBOr : DOp2 := fI (fun _ _ => True) fun i j => .int (Builtin.bitOr i j)
abbrev fBXor : DOp2 := fI (fun _ _ => True) fun i j => .int (Builtin.bitXor i j)
abbrev fLt : DOp2 := fI (fun _ _ => True) fun i j => .bool (decide (i < j))
abbrev fLe : DOp2 := fI (fun _ _ => True) fun i j => .bool (decide (i ≤ j))
abbrev fGt : DOp2 := fI (fun _ _ => True) fun i j => .bool (decide (j < i))
abbrev fGe : DOp2 := fI (fun _ _ => True) fun i j => .bool (decide (j ≤ i))

/-- a + b: ints, texts, tuples, lists -/
def fAdd : DOp2 := fun v u Q => match v, u with
  | .d (.int i), .d (.int j) => Q (.d (.int (i + j)))
  | .d (.str x), .d (.str y) => x.length + y.length ≤ sizeLine ∧ Q (.d (.str (x ++ y)))
  | .d (.tuple xs), .d (.tuple ys) => xs.length + ys.length ≤ sizeLine ∧ Q (.d (.tuple (xs ++ ys)))
  | .d (.list xs), .d (.list ys) => xs.length + ys.length ≤ sizeLine ∧ Q (.d (.list (xs ++ ys)))
  | _, _ => False
/-- a * b: ints, a list so many times -/
def fMul : DOp2 := fun v u Q => match v, u with
  | .d (.int i), .d (.int j) => MulC i j ∧ Q (.d (.int (i * j)))
  | .d (.list xs), .d (.int k) => k.natAbs < 2 ^ 62 ∧ xs.length * k.toNat ≤ sizeLine ∧ Q (.d (.list (List.replicate k.toNat xs).flatten))
  | _, _ => False
theorem str_app_len (x y : Str) : (x ++ y).length = x.length + y.length := by
  show (x.cps ++ y.cps).size = _
  rw [Array.size_append]
  rfl
theorem RepPs.flat {B : Addr → Prop} {H : Hp} {vs : List V} {xs : List PyData} (r : RepPs K B H vs xs) : ∀ n : Nat, RepPs K B H (List.replicate n vs).flatten (List.replicate n xs).flatten
  | 0 => .nil
  | n + 1 => by
    rw [List.replicate_succ, List.replicate_succ, List.flatten_cons, List.flatten_cons]
    exact r.append (RepPs.flat r n)
def rAdd4 (K : PySem.W.Frag) : R2 := fun x y H Q => (rI0 (fun i j => .int (i + j)) x y H Q ∨ ∃ i j, x = .str i ∧ y = .str j ∧ i.length + j.length ≤ sizeLine ∧ Q (.str (i ++ j)) H) ∨ (rCatA K x y H Q ∨ rCat x y H Q)
theorem opr_add : OpR X (binaryOp .Add) (rAdd4 X.K) := OpR.or (OpR.or op_add op_add_str) (OpR.or op_catA op_cat)
theorem fAdd_mono : ∀ v u Q Q', (∀ z, Q z → Q' z) → fAdd v u Q → fAdd v u Q' := fun v u Q Q' hQ h => by
  cases v with
  | deck => exact h
  | d a =>
    cases u with
    | deck => cases a <;> exact h
    | d b => cases a <;> cases b <;> first | exact hQ _ h | exact ⟨h.1, hQ _ h.2⟩ | exact h
theorem ops_add : OpS K dk fAdd (rAdd4 K) := ⟨fAdd_mono, fun B H x y v u Q ht rx ry h => by
  cases v with
  | deck => exact h.elim
  | d a =>
    cases u with
    | deck => cases a <;> exact h.elim
    | d b =>
      cases a with
      | int i =>
        cases b with
        | int j => exact .inl (.inl ⟨i, j, repInt rx, repInt ry, h _ H (Grow.refl H) (.int _)⟩)
        | _ => exact h.elim
      | str i =>
        cases b with
        | str j => exact .inl (.inr ⟨i, j, (repStr rx).1, (repStr ry).1, h.1, h.2 _ H (Grow.refl H) (.str _ (by rw [str_app_len]; exact h.1))⟩)
        | _ => exact h.elim
      | tuple xs =>
        cases b with
        | tuple ys =>
          obtain ⟨p, vs, rfl, hs, rp, hl⟩ := repTup rx
          obtain ⟨q, ws, rfl, hs', rp', hl'⟩ := repTup ry
          have hz : vs.length + ws.length ≤ sizeLine := by rw [rp.length, rp'.length]; exact h.1
          refine .inr (.inl ⟨p, q, vs, ws, rfl, rfl, hs, hs', hz, fun e => ?_, fun e e' => ?_, fun e e' np hp => ?_⟩)
          · subst e
            cases rp
            exact h.2 _ H (Grow.refl H) ry
          · subst e'
            cases rp'
            exact h.2 _ H (Grow.refl H) (by rw [List.append_nil]; exact rx)
          · exact h.2 _ _ (Grow.upd hp) (newTup ht hp (rp.append rp') (by rw [List.length_append]; exact hz))
        | _ => exact h.elim
      | list xs =>
        cases b with
        | list ys =>
          obtain ⟨p, vs, rfl, hs, _, rp, hl⟩ := repLst rx
          obtain ⟨q, ws, rfl, hs', _, rp', hl'⟩ := repLst ry
          have hz : vs.length + ws.length ≤ sizeLine := by rw [rp.length, rp'.length]; exact h.1
          exact .inr (.inr ⟨p, q, vs, ws, rfl, rfl, hs, hs', hz, fun np hp => h.2 _ _ (Grow.upd hp) (newLst ht hp (rp.append rp') (by rw [List.length_append]; exact hz))⟩)
        | _ => exact h.elim
      | _ => cases b <;> exact h.elim⟩
def rMul2 : R2 := fun x y H Q => rI MulC (fun i j => .int (i * j)) x y H Q ∨ rRep x y H Q
theorem opr_mul2 : OpR X (binaryOp .Mult) rMul2 := OpR.or opr_mul op_rep
theorem flat_len {α : Type} (xs : List α) : ∀ n : Nat, (List.replicate n xs).flatten.length = xs.length * n
  | 0 => by simp
  | n + 1 => by rw [List.replicate_succ, List.flatten_cons, List.length_append, flat_len xs n, Nat.mul_succ]; omega
theorem fMul_mono : ∀ v u Q Q', (∀ z, Q z → Q' z) → fMul v u Q → fMul v u Q' := fun v u Q Q' hQ h => by
  cases v with
  | deck => exact h
  | d a =>
    cases u with
    | deck => cases a <;> exact h
    | d b => cases a <;> cases b <;> first | exact ⟨h.1, hQ _ h.2⟩ | exact ⟨h.1, h.2.1, hQ _ h.2.2⟩ | exact h
theorem ops_mul : OpS K dk fMul rMul2 := ⟨fMul_mono, fun B H x y v u Q ht rx ry h => by
  cases v with
  | deck => exact h.elim
  | d a =>
    cases u with
    | deck => cases a <;> exact h.elim
    | d b =>
      cases a with
      | int i =>
        cases b with
        | int j => exact .inl ⟨i, j, repInt rx, repInt ry, h.1, h.2 _ H (Grow.refl H) (.int _)⟩
        | _ => exact h.elim
      | list xs =>
        cases b with
        | int k =>
          obtain ⟨p, vs, rfl, hs, _, rp, hl⟩ := repLst rx
          have hk := h.1
          have hz : vs.length * k.toNat ≤ sizeLine := by rw [rp.length]; exact h.2.1
          exact .inr ⟨p, k, vs, rfl, repInt ry, hs, by omega, by omega, hz, fun np hp => h.2.2 _ _ (Grow.upd hp) (newLst ht hp (rp.flat _) (by rw [flat_len]; exact hz))⟩
        | _ => exact h.elim
      | _ => cases b <;> exact h.elim⟩

/-! ### == and != of data without dicts -/
mutual
theorem repDp {B : Addr → Prop} {H : Hp} : ∀ {x : V} {d : PyData}, RepP K B H x d → d.canLay0 = true → Dp K H x d
  | _, _, .none, _ => .non
  | _, _, .bool b, _ => .bl b
  | _, _, .int i, _ => .int i
  | _, _, .str x _, _ => .str x
  | _, _, .tuple r _ _ t, h => .tup (.inl (.inl r)) (repDps t (by simpa [PyData.canLay0] using h))
  | _, _, .tupleK r t, h => .tup (.inr r) (repDps t (by simpa [PyData.canLay0] using h))
  | _, _, .list r _ _ t, h => .lst (.inl (.inl r)) (repDps t (by simpa [PyData.canLay0] using h))
  | _, _, .dict .., h => by simp [PyData.canLay0] at h
theorem repDps {B : Addr → Prop} {H : Hp} : ∀ {x : List V} {d : List PyData}, RepPs K B H x d → PyData.canLayAll0 d = true → DpAll K H x d
  | _, _, .nil, _ => .nil
  | _, _, .cons r t, h => by
    have h' := Bool.and_eq_true_iff.mp (show (_ && _) = true by simpa [PyData.canLayAll0] using h)
    exact .cons (repDp r h'.1) (repDps t h'.2)
end
def fEq (neg : Bool) : DOp2 := fun v u Q => match v, u with
  | .d a, .d b => SeqAt.shaped a = true ∧ SeqAt.shaped b = true ∧ Q (.d (.bool (if neg = true then !PyData.eqv a b else PyData.eqv a b)))
  | _, _ => False
theorem fEq_mono {neg : Bool} : ∀ v u Q Q', (∀ z, Q z → Q' z) → fEq neg v u Q → fEq neg v u Q' := fun v u Q Q' hQ h => by
  cases v with
  | deck => exact h
  | d a =>
    cases u with
    | deck => exact h
    | d b => exact ⟨h.1, h.2.1, hQ _ h.2.2⟩
theorem ops_eq : OpS K dk (fEq false) (rEqD K) := ⟨fEq_mono, fun B H x y v u Q ht rx ry h => by
  cases v with
  | deck => exact h.elim
  | d a =>
    cases u with
    | deck => exact h.elim
    | d b => exact ⟨a, b, repDp rx (SeqAt.canLay_of_shaped h.1), repDp ry (SeqAt.canLay_of_shaped h.2.1), h.1, h.2.1, h.2.2 _ H (Grow.refl H) (.bool _)⟩⟩
theorem ops_ne : OpS K dk (fEq true) (rNeD K) := ⟨fEq_mono, fun B H x y v u Q ht rx ry h => by
  cases v with
  | deck => exact h.elim
  | d a =>
    cases u with
    | deck => exact h.elim
    | d b => exact ⟨a, b, repDp rx (SeqAt.canLay_of_shaped h.1), repDp ry (SeqAt.canLay_of_shaped h.2.1), h.1, h.2.1, h.2.2 _ H (Grow.refl H) (.bool _)⟩⟩
/-- == of two texts -/
def fEqS (neg : Bool) : DOp2 := fun v u Q => match v, u with
  | .d (.str a), .d (.str b) => Q (.d (.bool (if neg = true then !decide (a = b) else decide (a = b))))
  | _, _ => False
theorem fEqS_mono {neg : Bool} : ∀ v u Q Q', (∀ z, Q z → Q' z) → fEqS neg v u Q → fEqS neg v u Q' := fun v u Q Q' hQ h => by
  cases v with
  | deck => exact h
  | d a =>
    cases u with
    | deck => cases a <;> exact h
    | d b => cases a <;> cases b <;> first | exact hQ _ h | exact h
theorem dec_strV {a b : Str} : decide (V.str a = V.str b) = decide (a = b) := by
  by_cases e : a = b
  · subst e; simp
  · have : ¬ V.str a = V.str b := fun z => e (V.str.inj z)
    rw [decide_eq_false e, decide_eq_false this]
theorem ops_eqS : OpS K dk (fEqS false) rEq := ⟨fEqS_mono, fun B H x y v u Q ht rx ry h => by
  cases v with
  | deck => exact h.elim
  | d a =>
    cases u with
    | deck => cases a <;> exact h.elim
    | d b =>
      cases a with
      | str a =>
        cases b with
        | str b =>
          obtain ⟨rfl, _⟩ := repStr rx
          obtain ⟨rfl, _⟩ := repStr ry
          exact ⟨rfl, by rw [dec_strV]; exact h _ H (Grow.refl H) (.bool _)⟩
        | _ => exact h.elim
      | _ => cases b <;> exact h.elim⟩
theorem ops_neS : OpS K dk (fEqS true) rNe := ⟨fEqS_mono, fun B H x y v u Q ht rx ry h => by
  cases v with
  | deck => exact h.elim
  | d a =>
    cases u with
    | deck => cases a <;> exact h.elim
    | d b =>
      cases a with
      | str a =>
        cases b with
        | str b =>
          obtain ⟨rfl, _⟩ := repStr rx
          obtain ⟨rfl, _⟩ := repStr ry
          exact ⟨rfl, by rw [dec_strV]; exact h _ H (Grow.refl H) (.bool _)⟩
        | _ => exact h.elim
      | _ => cases b <;> exact h.elim⟩

/-- is None, is not None -/
def fIsN (neg : Bool) : DOp2 := fun v u Q => match u with
  | .d .none => match v with
    | .d .none => Q (.d (.bool (!neg)))
    | .d _ => Q (.d (.bool neg))
    | _ => False
  | _ => False
theorem rep_non {B : Addr → Prop} {H : Hp} {x : V} {a : PyData} (r : RepP K B H x a) : decide (x = .non) = (match a with | .none => true | _ => false) := by
  cases r <;> simp
theorem fIsN_mono {neg : Bool} : ∀ v u Q Q', (∀ z, Q z → Q' z) → fIsN neg v u Q → fIsN neg v u Q' := fun v u Q Q' hQ h => by
  cases u with
  | deck => exact h
  | d b =>
    cases b with
    | none =>
      cases v with
      | deck => exact h
      | d a => cases a <;> exact hQ _ h
    | _ => exact h
theorem ops_isN : OpS K dk (fIsN false) (fun x y H Q => y = .non ∧ Q (.bl (decide (x = .non))) H) := ⟨fIsN_mono, fun B H x y v u Q ht rx ry h => by
  cases u with
  | deck => exact h.elim
  | d b =>
    cases b with
    | none =>
      cases v with
      | deck => exact h.elim
      | d a =>
        refine ⟨repNone ry, ?_⟩
        rw [rep_non rx]
        cases a <;> exact h _ H (Grow.refl H) (.bool _)
    | _ => exact h.elim⟩
theorem ops_notN : OpS K dk (fIsN true) (fun x y H Q => y = .non ∧ Q (.bl (!decide (x = .non))) H) := ⟨fIsN_mono, fun B H x y v u Q ht rx ry h => by
  cases u with
  | deck => exact h.elim
  | d b =>
    cases b with
    | none =>
      cases v with
      | deck => exact h.elim
      | d a =>
        refine ⟨repNone ry, ?_⟩
        rw [rep_non rx]
        cases a <;> exact h _ H (Grow.refl H) (.bool _)
    | _ => exact h.elim⟩
end
end DL
set_option maxHeartbeats 4000000
/-! D6: in, not in; len, abs, max, min, int, tuple, list, all, any, sum. -/
namespace DL
open PySem PySem.Spec
open PyProof.Rows hiding St
open L2

def boolsOf : List PyData → Option (List Bool)
  | [] => some []
  | .bool b :: r => (boolsOf r).map (b :: ·)
  | _ => none
def intsOf : List PyData → Option (List Int)
  | [] => some []
  | .int b :: r => (intsOf r).map (b :: ·)
  | _ => none
def strsOf : List PyData → Option (List Str)
  | [] => some []
  | .str b :: r => (strsOf r).map (b :: ·)
  | _ => none
section
variable {K : PySem.W.Frag} {dk : Dk} {B : Addr → Prop} {H : Hp}
theorem rep_bools : ∀ {vs : List V} {xs : List PyData} {bs : List Bool}, RepPs K B H vs xs → boolsOf xs = some bs → vs = bs.map V.bl
  | _, _, _, .nil, e => by cases e; rfl
  | _, _, _, .cons (d := d) r t, e => by
    cases d with
    | bool b =>
      unfold boolsOf at e
      cases e2 : boolsOf _ with
      | none => rw [e2] at e; cases e
      | some ys =>
        rw [e2] at e
        cases e
        cases r
        rw [rep_bools t e2]
        rfl
    | _ => cases e
theorem rep_ints : ∀ {vs : List V} {xs : List PyData} {bs : List Int}, RepPs K B H vs xs → intsOf xs = some bs → vs = bs.map V.int
  | _, _, _, .nil, e => by cases e; rfl
  | _, _, _, .cons (d := d) r t, e => by
    cases d with
    | int b =>
      unfold intsOf at e
      cases e2 : intsOf _ with
      | none => rw [e2] at e; cases e
      | some ys =>
        rw [e2] at e
        cases e
        cases r
        rw [rep_ints t e2]
        rfl
    | _ => cases e
theorem rep_strs : ∀ {vs : List V} {xs : List PyData} {bs : List Str}, RepPs K B H vs xs → strsOf xs = some bs → vs = bs.map V.str
  | _, _, _, .nil, e => by cases e; rfl
  | _, _, _, .cons (d := d) r t, e => by
    cases d with
    | str b =>
      unfold strsOf at e
      cases e2 : strsOf _ with
      | none => rw [e2] at e; cases e
      | some ys =>
        rw [e2] at e
        cases e
        cases r
        rw [rep_strs t e2]
        rfl
    | _ => cases e
theorem ints_rep : ∀ (bs : List Int), RepPs K B H (bs.map V.int) (bs.map PyData.int)
  | [] => .nil
  | b :: r => .cons (.int b) (ints_rep r)

/-! ### in, not in -/
def flatP : PyData → Bool
  | .none | .bool _ | .int _ | .str _ => true
  | _ => false
def inStr (x y : Str) : Bool := !(Builtin.Str.occurrences y x 0 y.length 1).isEmpty
def inSeq (x : PyData) (xs : List PyData) : Bool := xs.any fun y => PyData.eqv y x
def fIn (neg : Bool) : DOp2 := fun v u Q => match v, u with
  | .d (.str x), .d (.str y) => Q (.d (.bool (if neg = true then !inStr x y else inStr x y)))
  | .d x, .d (.tuple xs) => flatP x = true ∧ xs.all flatP = true ∧ Q (.d (.bool (if neg = true then !inSeq x xs else inSeq x xs)))
  | .d x, .d (.list xs) => flatP x = true ∧ xs.all flatP = true ∧ Q (.d (.bool (if neg = true then !inSeq x xs else inSeq x xs)))
  | _, _ => False
theorem flat_rep {x : V} {a : PyData} (r : RepP K B H x a) (h : flatP a = true) : flatV x = true := by
  cases r <;> first | rfl | cases h
theorem flat_reps : ∀ {vs : List V} {xs : List PyData}, RepPs K B H vs xs → xs.all flatP = true → vs.all flatV = true
  | _, _, .nil, _ => rfl
  | _, _, .cons r t, h => by
    rw [List.all_cons] at h
    have h' := Bool.and_eq_true_iff.mp h
    rw [List.all_cons, flat_rep r h'.1, flat_reps t h'.2]
    rfl
theorem eqV_rep {x y : V} {a b : PyData} (r : RepP K B H x a) (q : RepP K B H y b) (h : flatP a = true) (h' : flatP b = true) : eqV x y = PyData.eqv a b := by
  cases r <;> first | cases h | skip
  all_goals (cases q <;> first | cases h' | skip)
  all_goals first | rfl | (simp [eqV, PyData.eqv]; done) | (unfold eqV PyData.eqv; rfl)
theorem inV_rep {x : V} {a : PyData} (r : RepP K B H x a) (h : flatP a = true) : ∀ {vs : List V} {xs : List PyData}, RepPs K B H vs xs → xs.all flatP = true → inV x vs = inSeq a xs
  | _, _, .nil, _ => rfl
  | _, _, .cons q t, hs => by
    rw [List.all_cons] at hs
    have h' := Bool.and_eq_true_iff.mp hs
    have ih := inV_rep r h t h'.2
    unfold inV inSeq at ih ⊢
    rw [List.any_cons, List.any_cons, ih, eqV_rep q r h'.1 h]
theorem fIn_mono {neg : Bool} : ∀ v u Q Q', (∀ z, Q z → Q' z) → fIn neg v u Q → fIn neg v u Q' := fun v u Q Q' hQ h => by
  cases v with
  | deck => exact h
  | d a =>
    cases u with
    | deck => cases a <;> exact h
    | d b => cases a <;> cases b <;> first | exact hQ _ h | exact ⟨h.1, h.2.1, hQ _ h.2.2⟩ | exact h
def rIn2 (K : PySem.W.Frag) (neg : Bool) : R2 := fun x y H Q => (∃ i j, x = .str i ∧ y = .str j ∧ Q (.bl (if neg = true then !inStr i j else inStr i j)) H) ∨ rIn K neg x y H Q
theorem opr_in {X : Cx} : OpR X (compareOp .In) (rIn2 X.K false) := OpR.or op_in_str op_in_seq
theorem opr_notIn {X : Cx} : OpR X (compareOp .NotIn) (rIn2 X.K true) := OpR.or op_notin_str op_notIn_seq
theorem ops_in {neg : Bool} : OpS K dk (fIn neg) (rIn2 K neg) := ⟨fIn_mono, fun B H x y v u Q ht rx ry h => by
  cases v with
  | deck => exact h.elim
  | d a =>
    cases u with
    | deck => cases a <;> exact h.elim
    | d b =>
      cases b with
      | str j =>
        cases a with
        | str i => exact .inl ⟨i, j, (repStr rx).1, (repStr ry).1, h _ H (Grow.refl H) (.bool _)⟩
        | _ => exact h.elim
      | tuple xs =>
        obtain ⟨p, vs, rfl, hs, rp, hl⟩ := repTup ry
        have h : flatP a = true ∧ xs.all flatP = true ∧ ∀ w H', Grow H H' → RepV K dk B H' w (.d (.bool (if neg = true then !inSeq a xs else inSeq a xs))) → Q w H' := by cases a <;> exact h
        refine .inr ⟨p, vs, rfl, .inr hs, flat_rep rx h.1, flat_reps rp h.2.1, ?_⟩
        rw [inV_rep rx h.1 rp h.2.1]
        exact h.2.2 _ H (Grow.refl H) (.bool _)
      | list xs =>
        obtain ⟨p, vs, rfl, hs, _, rp, hl⟩ := repLst ry
        have h : flatP a = true ∧ xs.all flatP = true ∧ ∀ w H', Grow H H' → RepV K dk B H' w (.d (.bool (if neg = true then !inSeq a xs else inSeq a xs))) → Q w H' := by cases a <;> exact h
        refine .inr ⟨p, vs, rfl, .inl (.inl (.inl hs)), flat_rep rx h.1, flat_reps rp h.2.1, ?_⟩
        rw [inV_rep rx h.1 rp h.2.1]
        exact h.2.2 _ H (Grow.refl H) (.bool _)
      | _ => cases a <;> exact h.elim⟩

/-! ### built-in functions -/
/-- of one tree, by the tree alone -/
def f1 (f : PyData → Option PyData) : DFn := fun vs Q => match vs with
  | [.d a] => match f a with
    | some c => Q (.d c)
    | none => False
  | _ => False
def f2 (f : PyData → PyData → Option PyData) : DFn := fun vs Q => match vs with
  | [.d a, .d b] => match f a b with
    | some c => Q (.d c)
    | none => False
  | _ => False
theorem f1_inv {f : PyData → Option PyData} {vs : List Val} {Q : Val → Prop} (h : f1 f vs Q) : ∃ a c, vs = [.d a] ∧ f a = some c ∧ Q (.d c) := by
  unfold f1 at h
  split at h
  · split at h
    · exact ⟨_, _, rfl, by assumption, h⟩
    · exact h.elim
  · exact h.elim
theorem f2_inv {f : PyData → PyData → Option PyData} {vs : List Val} {Q : Val → Prop} (h : f2 f vs Q) : ∃ a b c, vs = [.d a, .d b] ∧ f a b = some c ∧ Q (.d c) := by
  unfold f2 at h
  split at h
  · split at h
    · exact ⟨_, _, _, rfl, by assumption, h⟩
    · exact h.elim
  · exact h.elim
theorem f1_mono {f : PyData → Option PyData} : ∀ v Q Q', (∀ z, Q z → Q' z) → f1 f v Q → f1 f v Q' := fun v Q Q' hQ h => by
  obtain ⟨a, c, rfl, e, q⟩ := f1_inv h
  show match f a with
    | some c => Q' (.d c)
    | none => False
  rw [e]
  exact hQ _ q
theorem f2_mono {f : PyData → PyData → Option PyData} : ∀ v Q Q', (∀ z, Q z → Q' z) → f2 f v Q → f2 f v Q' := fun v Q Q' hQ h => by
  obtain ⟨a, b, c, rfl, e, q⟩ := f2_inv h
  show match f a b with
    | some c => Q' (.d c)
    | none => False
  rw [e]
  exact hQ _ q
theorem rep1 {vs : List V} {a : Val} (r : RepVs K dk B H vs [a]) : ∃ x, vs = [x] ∧ RepV K dk B H x a := by
  cases r with
  | cons h t => cases t; exact ⟨_, rfl, h⟩
theorem rep2 {vs : List V} {a b : Val} (r : RepVs K dk B H vs [a, b]) : ∃ x y, vs = [x, y] ∧ RepV K dk B H x a ∧ RepV K dk B H y b := by
  cases r with
  | cons h t =>
    cases t with
    | cons h' t => cases t; exact ⟨_, _, rfl, h, h'⟩
theorem bui1 {f : PyData → Option PyData} {r : List V → Hp → VK → Prop} (h : ∀ (B : Addr → Prop) (H : Hp) (x : V) (a c : PyData) (Q : VK), (∀ a, B a → H a ≠ none) → RepP K B H x a → f a = some c → (∀ w H', Grow H H' → RepP K B H' w c → Q w H') → r [x] H Q) : BuiS K dk (f1 f) r :=
  ⟨f1_mono, fun B H xs v Q ht rv q => by
    obtain ⟨a, c, rfl, e, q⟩ := f1_inv q
    obtain ⟨x, rfl, rx⟩ := rep1 rv
    exact h B H x a c Q ht rx e q⟩
theorem bui2 {f : PyData → PyData → Option PyData} {r : List V → Hp → VK → Prop} (h : ∀ (B : Addr → Prop) (H : Hp) (x y : V) (a b c : PyData) (Q : VK), (∀ a, B a → H a ≠ none) → RepP K B H x a → RepP K B H y b → f a b = some c → (∀ w H', Grow H H' → RepP K B H' w c → Q w H') → r [x, y] H Q) : BuiS K dk (f2 f) r :=
  ⟨f2_mono, fun B H xs v Q ht rv q => by
    obtain ⟨a, b, c, rfl, e, q⟩ := f2_inv q
    obtain ⟨x, y, rfl, rx, ry⟩ := rep2 rv
    exact h B H x y a b c Q ht rx ry e q⟩

def lenOf : PyData → Option PyData
  | .tuple xs => some (.int xs.length)
  | .list xs => some (.int xs.length)
  | .str x => some (.int x.length)
  | _ => none
theorem bui_len : BuiS K dk (f1 lenOf) (fun xs H Q => ∃ x n, xs = [x] ∧ LenV K x H n ∧ Q (.int n) H) := bui1 fun B H x a c Q ht rx e q => by
  cases a with
  | tuple xs =>
    cases e
    obtain ⟨p, vs, rfl, hs, rp, hl⟩ := repTup (dk := ⟨false, 0, 0, ""⟩) rx
    exact ⟨_, _, rfl, .inr ⟨vs, hs, by rw [rp.length]⟩, q _ H (Grow.refl H) (.int _)⟩
  | list xs =>
    cases e
    obtain ⟨p, vs, rfl, hs, _, rp, hl⟩ := repLst (dk := ⟨false, 0, 0, ""⟩) rx
    exact ⟨_, _, rfl, .inl ⟨vs, .inl (.inl hs), by rw [rp.length]⟩, q _ H (Grow.refl H) (.int _)⟩
  | str z =>
    cases e
    obtain ⟨rfl, hl⟩ := repStr (dk := ⟨false, 0, 0, ""⟩) rx
    exact ⟨_, _, rfl, ⟨hl, rfl⟩, q _ H (Grow.refl H) (.int _)⟩
  | _ => cases e
def absOf : PyData → Option PyData
  | .int i => some (.int (if i < 0 then -i else i))
  | _ => none
theorem bui_abs : BuiS K dk (f1 absOf) (fun xs H Q => ∃ i, xs = [.int i] ∧ Q (.int (if i < 0 then -i else i)) H) := bui1 fun B H x a c Q ht rx e q => by
  cases a with
  | int i => cases e; cases rx; exact ⟨i, rfl, q _ H (Grow.refl H) (.int _)⟩
  | _ => cases e
def max2Of : PyData → PyData → Option PyData
  | .int i, .int j => some (.int (if j > i then j else i))
  | _, _ => none
def min2Of : PyData → PyData → Option PyData
  | .int i, .int j => some (.int (if j < i then j else i))
  | _, _ => none
theorem bui_max2 : BuiS K dk (f2 max2Of) (fun xs H Q => ∃ i j, xs = [.int i, .int j] ∧ Q (.int (if j > i then j else i)) H) := bui2 fun B H x y a b c Q ht rx ry e q => by
  cases a with
  | int i =>
    cases b with
    | int j => cases e; cases rx; cases ry; exact ⟨i, j, rfl, q _ H (Grow.refl H) (.int _)⟩
    | _ => cases e
  | _ => cases b <;> cases e
theorem bui_min2 : BuiS K dk (f2 min2Of) (fun xs H Q => ∃ i j, xs = [.int i, .int j] ∧ Q (.int (if j < i then j else i)) H) := bui2 fun B H x y a b c Q ht rx ry e q => by
  cases a with
  | int i =>
    cases b with
    | int j => cases e; cases rx; cases ry; exact ⟨i, j, rfl, q _ H (Grow.refl H) (.int _)⟩
    | _ => cases e
  | _ => cases b <;> cases e
/-- int(n) -/
def intOf : PyData → Option PyData
  | .int i => some (.int i)
  | _ => none
theorem bui_int : BuiS K dk (f1 intOf) (fun xs H Q => (∃ i, xs = [.int i] ∧ Q (.int i) H) ∨ ∃ k, xs = [.bl k] ∧ Q (.int (if k then 1 else 0)) H) := bui1 fun B H x a c Q ht rx e q => by
  cases a with
  | int i => cases e; cases rx; exact .inl ⟨i, rfl, q _ H (Grow.refl H) (.int _)⟩
  | _ => cases e
/-- str(n) -/
def strOfInt : PyData → Option PyData
  | .int i => if i.natAbs.log2 < 1920 then some (.str (toString i)) else none
  | _ => none
def tupOf : PyData → Option PyData
  | .tuple xs => some (.tuple xs)
  | .list xs => some (.tuple xs)
  | _ => none
theorem bui_tuple : BuiS K dk (f1 tupOf) (fun xs H Q => ∃ p ys, xs = [.ref p] ∧ ((SqL K H p ys ∧ ∀ l, H l = none → Q (.ref l) (upd H l (.tup ys))) ∨ (SqT K H p ys ∧ Q (.ref p) H))) := bui1 fun B H x a c Q ht rx e q => by
  cases a with
  | tuple xs =>
    cases e
    obtain ⟨p, vs, rfl, hs, rp, hl⟩ := repTup (dk := ⟨false, 0, 0, ""⟩) rx
    exact ⟨p, vs, rfl, .inr ⟨hs, q _ H (Grow.refl H) rx⟩⟩
  | list xs =>
    cases e
    obtain ⟨p, vs, rfl, hs, _, rp, hl⟩ := repLst (dk := ⟨false, 0, 0, ""⟩) rx
    exact ⟨p, vs, rfl, .inl ⟨.inl (.inl hs), fun l hp => q _ _ (Grow.upd hp) (newTup ht hp rp hl)⟩⟩
  | _ => cases e
def lstOf : PyData → Option PyData
  | .tuple xs => some (.list xs)
  | .list xs => some (.list xs)
  | _ => none
theorem bui_list : BuiS K dk (f1 lstOf) (fun xs H Q => ∃ p ys, xs = [.ref p] ∧ (SqL K H p ys ∨ SqT K H p ys) ∧ ∀ l, H l = none → Q (.ref l) (upd H l (.lst ys))) := bui1 fun B H x a c Q ht rx e q => by
  cases a with
  | tuple xs =>
    cases e
    obtain ⟨p, vs, rfl, hs, rp, hl⟩ := repTup (dk := ⟨false, 0, 0, ""⟩) rx
    exact ⟨p, vs, rfl, .inr hs, fun l hp => q _ _ (Grow.upd hp) (newLst ht hp rp hl)⟩
  | list xs =>
    cases e
    obtain ⟨p, vs, rfl, hs, _, rp, hl⟩ := repLst (dk := ⟨false, 0, 0, ""⟩) rx
    exact ⟨p, vs, rfl, .inl (.inl (.inl hs)), fun l hp => q _ _ (Grow.upd hp) (newLst ht hp rp hl)⟩
  | _ => cases e
def allOf : PyData → Option PyData
  | .list xs => (boolsOf xs).map fun bs => .bool (bs.all id)
  | _ => none
def anyOf : PyData → Option PyData
  | .list xs => (boolsOf xs).map fun bs => .bool (bs.any id)
  | _ => none
theorem bui_all : BuiS K dk (f1 allOf) (rAll K) := bui1 fun B H x a c Q ht rx e q => by
  cases a with
  | list xs =>
    have e : (boolsOf xs).map (fun bs => PyData.bool (bs.all id)) = some c := e
    cases e2 : boolsOf xs with
    | none => rw [e2] at e; cases e
    | some bs =>
      rw [e2] at e
      cases e
      obtain ⟨p, vs, rfl, hs, _, rp, hl⟩ := repLst (dk := ⟨false, 0, 0, ""⟩) rx
      exact ⟨p, bs, rfl, .inl (.inl (by rw [← rep_bools rp e2]; exact hs)), q _ H (Grow.refl H) (.bool _)⟩
  | _ => cases e
theorem bui_any : BuiS K dk (f1 anyOf) (rAny K) := bui1 fun B H x a c Q ht rx e q => by
  cases a with
  | list xs =>
    have e : (boolsOf xs).map (fun bs => PyData.bool (bs.any id)) = some c := e
    cases e2 : boolsOf xs with
    | none => rw [e2] at e; cases e
    | some bs =>
      rw [e2] at e
      cases e
      obtain ⟨p, vs, rfl, hs, _, rp, hl⟩ := repLst (dk := ⟨false, 0, 0, ""⟩) rx
      exact ⟨p, bs, rfl, .inl (.inl (by rw [← rep_bools rp e2]; exact hs)), q _ H (Grow.refl H) (.bool _)⟩
  | _ => cases e
def sumOf : PyData → Option PyData
  | .list xs => (intsOf xs).map fun bs => .int bs.sum
  | _ => none
theorem bui_sum : BuiS K dk (f1 sumOf) (rSum K) := bui1 fun B H x a c Q ht rx e q => by
  cases a with
  | list xs =>
    have e : (intsOf xs).map (fun bs => PyData.int bs.sum) = some c := e
    cases e2 : intsOf xs with
    | none => rw [e2] at e; cases e
    | some bs =>
      rw [e2] at e
      cases e
      obtain ⟨p, vs, rfl, hs, _, rp, hl⟩ := repLst (dk := ⟨false, 0, 0, ""⟩) rx
      exact ⟨p, bs, rfl, .inl (.inl (by rw [← rep_ints rp e2]; exact hs)), q _ H (Grow.refl H) (.int _)⟩
  | _ => cases e
end
end DL
set_option maxHeartbeats 4000000
/-! D7: statements: blocks, return, if, stores, targets, for, while. -/
namespace DL
open PySem PySem.Spec
open PyProof.Rows hiding St
open L2

/-! ### small statements -/
def dNext : DTS := fun D ρ => D.nx ρ
def dBrk : DTS := fun D ρ => D.bk ρ
def dCnt : DTS := fun D ρ => D.ct ρ
def dSeq (t u : DTS) : DTS := fun D ρ => t { D with nx := u D } ρ
def dRet (t : DTE) : DTS := fun D ρ => t ρ (fun v ρ' => D.rt v ρ') D.ex
def dDrop (t : DTE) : DTS := fun D ρ => t ρ (fun _ ρ' => D.nx ρ') D.ex
def dIf (c : DTT) (t u : DTS) : DTS := fun D ρ => c ρ (fun b ρ' => if b = true then t D ρ' else u D ρ') D.ex
def dAsg (i : Nat) (t : DTE) : DTS := fun D ρ => t ρ (fun v ρ' => D.nx (ρ'.set i (.val v))) D.ex
def dNever : DTS := fun _ _ => False

theorem monoNext : MonoS dNext := fun D D' ρ h q => h.nx _ q
theorem monoBrk : MonoS dBrk := fun D D' ρ h q => h.bk _ q
theorem monoCnt : MonoS dCnt := fun D D' ρ h q => h.ct _ q
theorem monoSeq {t u : DTS} (m : MonoS t) (n : MonoS u) : MonoS (dSeq t u) := fun D D' ρ h q => m { D with nx := u D } { D' with nx := u D' } ρ ⟨fun ρ q => n D D' ρ h q, h.rt, h.bk, h.ct, h.ex⟩ q
theorem monoRet {t : DTE} (m : MonoE t) : MonoS (dRet t) := fun D D' ρ h q => m _ _ _ _ _ (fun v ρ' q => h.rt _ _ q) h.ex q
theorem monoDrop {t : DTE} (m : MonoE t) : MonoS (dDrop t) := fun D D' ρ h q => m _ _ _ _ _ (fun v ρ' q => h.nx _ q) h.ex q
theorem monoIf {c : DTT} {t u : DTS} (m : MonoT c) (n : MonoS t) (k : MonoS u) : MonoS (dIf c t u) := fun D D' ρ h q => m _ _ _ _ _ (fun v ρ' q => by
  cases v with
  | true => exact n _ _ _ h q
  | false => exact k _ _ _ h q) h.ex q
theorem monoAsg {i : Nat} {t : DTE} (m : MonoE t) : MonoS (dAsg i t) := fun D D' ρ h q => m _ _ _ _ _ (fun v ρ' q => h.nx _ q) h.ex q
theorem monoNever : MonoS dNever := fun _ _ _ _ q => q

section
variable {K : PySem.W.Frag} {dk : Dk} {B : Addr → Prop} {H : Hp} {σ : L2.St} {ρ : Env}
/-- a name is stored -/
theorem Rel.set (r : Rel K dk B H σ ρ) (i : Nat) {x : V} {v : Val} (hv : RepV K dk B H x v) : Rel K dk B H (σ.set i (some x)) (ρ.set i (.val v)) ∧ Step (UU dk σ ρ) B H (UU dk (σ.set i (some x)) (ρ.set i (.val v))) B H := by
  have ownS : ∀ {j b}, OwnAt (σ.set i (some x)) (ρ.set i (.val v)) j b → OwnAt σ ρ j b := fun {j b} ⟨s', e, o, q⟩ => by
    rcases get_set e with ⟨rfl, rfl, _⟩ | ⟨n, e'⟩
    · cases o
    · rw [List.getElem?_set_ne n] at q
      exact ⟨s', e', o, q⟩
  refine ⟨⟨by rw [List.length_set, List.length_set]; exact r.len, fun j s' e => ?_, fun j k b h1 h2 => r.sep j k b (ownS h1) (ownS h2), fun j b h => r.ownB j b (ownS h), r.deck, r.deckB, r.trk⟩,
    ⟨fun _ _ h _ _ => h, fun _ h => h, fun b h n _ => h, fun b h => .inl h, fun b h => ?_⟩⟩
  · rcases get_set e with ⟨rfl, rfl, hl⟩ | ⟨n, e'⟩
    · refine ⟨x, ?_, hv⟩
      rw [List.getElem?_set_self (by rw [r.len]; exact hl)]
    · rw [List.getElem?_set_ne n]
      exact r.slot j s' e'
  · rcases h with h | ⟨j, h⟩
    · exact .inl (.inl h)
    · exact .inl (.inr ⟨j, ownS h⟩)
end

section
variable {X : Cx} {dk : Dk} {W : WX} {e f g : Expr} {s : Stmt} {rest body orelse : List Stmt} {t : DTE} {c : DTT} {p q r : DTS} {pos : Pos}
theorem dss_nil : DSs X dk W [] dNext := ⟨PSs.imp pss_nil fun D σ H ⟨B, ρ, r, q⟩ => q σ B H r Step.refl, monoNext⟩
theorem seq_core {D : Ends} {σ : L2.St} {H : Hp} (m : MonoS p) (n : MonoS q) (h : tDS X.K X.mg dk W (dSeq p q) D σ H) : tDS X.K X.mg dk W p { D with nx := tDS X.K X.mg dk W q D } σ H := by
  obtain ⟨B, ρ, r, h⟩ := h
  refine ⟨B, ρ, r, m { okD X.K X.mg dk W D B H σ ρ with nx := q (okD X.K X.mg dk W D B H σ ρ) } _ _ ⟨fun ρ' z σ' B' H' l s => ⟨B', ρ', l, n _ _ _ (okD.next s D) z⟩, fun _ _ z => z, fun _ z => z, fun _ z => z, fun _ _ _ z => z⟩ h⟩
theorem dss_cons (h1 : DS X dk W s p) (h2 : DSs X dk W rest q) : DSs X dk W (s :: rest) (dSeq p q) :=
  ⟨PSs.imp (pss_cons h1.ps h2.ps) fun D σ H h => seq_core h1.mono h2.mono h, monoSeq h1.mono h2.mono⟩
theorem dss_one (h1 : DS X dk W s p) : DSs X dk W [s] p := ⟨pss_one h1.ps, h1.mono⟩
theorem ds_pass : DS X dk W (.Pass pos) dNext := ⟨PS.imp ps_pass fun D σ H ⟨B, ρ, r, q⟩ => q σ B H r Step.refl, monoNext⟩
theorem ds_break : DS X dk W (.Break pos) dBrk := ⟨PS.imp ps_break fun D σ H ⟨B, ρ, r, q⟩ => q σ B H r Step.refl, monoBrk⟩
theorem ds_continue : DS X dk W (.Continue pos) dCnt := ⟨PS.imp ps_continue fun D σ H ⟨B, ρ, r, q⟩ => q σ B H r Step.refl, monoCnt⟩
theorem ds_never : DS X dk W s dNever := ⟨PS.imp ps_never fun D σ H ⟨B, ρ, r, q⟩ => q, monoNever⟩
theorem ds_ret (h : DE X dk W e t) : DS X dk W (.Return (some e) pos) (dRet t) :=
  ⟨PS.imp (ps_ret h.pe) fun D σ H ⟨B, ρ, r, q⟩ => bindE h.mono r q (fun _ _ _ z => exS.toE z) fun v ρ1 x B1 H1 p l s rv => p x σ B1 H1 l s rv, monoRet h.mono⟩
theorem ds_expr (h : DE X dk W e t) (hs : swapsWith e none pos.line X.env = pure false := by rfl) : DS X dk W (.Expr e pos) (dDrop t) :=
  ⟨PS.imp (ps_expr h.pe hs) fun D σ H ⟨B, ρ, r, q⟩ => bindE h.mono r q (fun _ _ _ z => exS.toE z) fun v ρ1 x B1 H1 p l s rv => p σ B1 H1 l s, monoDrop h.mono⟩
theorem ds_if (hc : DT X dk W e c) (h1 : DSs X dk W body p) (h2 : DSs X dk W orelse q) : DS X dk W (.If e body orelse pos) (dIf c p q) :=
  ⟨PS.imp (ps_if hc.pt h1.ps h2.ps) fun D σ H ⟨B, ρ, r, z⟩ => bindT hc.mono r z (fun _ _ _ z => exS.toE z) fun b ρ1 B1 H1 z l s => by
    cases b with
    | true => exact ⟨B1, ρ1, l, h1.mono _ _ _ (okD.next s D) z⟩
    | false => exact ⟨B1, ρ1, l, h2.mono _ _ _ (okD.next s D) z⟩, monoIf hc.mono h1.mono h2.mono⟩
theorem ds_set (i : Nat) {x : Str} {pos' : Pos} (hN : X.N.Nodup) (h : DE X dk W e t) (hi : X.N[i]? = some x := by rfl) (hx : Loc X.env.scope x := by first | exact Or.inl rfl | exact Or.inr rfl)
    (hs : swapsWith e (some (.Name x pos')) pos.line X.env = pure false := by rfl) (hf : X.fn x = true ∨ X.env.scope.names.lookup x = some .local := by first | exact .inl rfl | exact .inr rfl | assumption) :
    DS X dk W (.Assign [.Name x pos'] e pos) (dAsg i t) :=
  ⟨PS.imp (ps_set hN hi hx h.pe hs hf) fun D σ H ⟨B, ρ, r, q⟩ => bindE h.mono r q (fun _ _ _ z => exS.toE z) fun v ρ1 x B1 H1 p l s rv => by
    obtain ⟨l', s'⟩ := l.set i rv
    exact p _ B1 H1 l' (s.trans s'), monoAsg h.mono⟩
end

/-! ### targets -/
abbrev DTG := Val → Env → (Env → Prop) → Prop
def MonoG (g : DTG) : Prop := ∀ v ρ Q Q', (∀ ρ', Q ρ' → Q' ρ') → g v ρ Q → g v ρ Q'
/-- .. only the slots vs change -/
def okW (K : PySem.W.Frag) (dk : Dk) (vs : List Nat) (Q : L2.St → Hp → Prop) (B : Addr → Prop) (H : Hp) (σ : L2.St) (ρ : Env) : Env → Prop := fun ρ' => ∀ (σ' : L2.St) (B' : Addr → Prop) (H' : Hp), wipe σ' vs = wipe σ vs → Rel K dk B' H' σ' ρ' → Step (UU dk σ ρ) B H (UU dk σ' ρ') B' H' → Q σ' H'
theorem wipe_ne {i : Nat} {x : Option V} : ∀ {vs : List Nat} {σ : L2.St}, i ∉ vs → wipe (σ.set i x) vs = (wipe σ vs).set i x
  | [], σ, _ => rfl
  | v :: vs, σ, h => by
    rw [List.mem_cons, not_or] at h
    unfold wipe
    rw [wipe_ne h.2, List.set_comm _ _ h.1]
theorem wipe_in {i : Nat} {x : Option V} : ∀ {vs : List Nat} {σ : L2.St}, i ∈ vs → wipe (σ.set i x) vs = wipe σ vs
  | v :: vs, σ, h => by
    unfold wipe
    by_cases e : i ∈ vs
    · rw [wipe_in e]
    · rw [wipe_ne e]
      rcases List.mem_cons.mp h with rfl | h
      · rw [List.set_set]
      · exact absurd h e
def tDG (K : PySem.W.Frag) (dk : Dk) (vs : List Nat) (g : DTG) : TG := fun x σ H Q => ∃ (B : Addr → Prop) (ρ : Env) (v : Val), Rel K dk B H σ ρ ∧ RepV K dk B H x v ∧ g v ρ (okW K dk vs Q B H σ ρ)
structure DG (X : Cx) (dk : Dk) (vs : List Nat) (e : Expr) (g : DTG) : Prop where
  pg : PG X e (tDG X.K dk vs g)
  mono : MonoG g
abbrev DTGs := List PyData → Env → (Env → Prop) → Prop
def MonoGs (g : DTGs) : Prop := ∀ v ρ Q Q', (∀ ρ', Q ρ' → Q' ρ') → g v ρ Q → g v ρ Q'
def tDGs (K : PySem.W.Frag) (dk : Dk) (vs : List Nat) (g : DTGs) : TGs := fun x σ H Q => ∃ (B : Addr → Prop) (ρ : Env) (v : List PyData), Rel K dk B H σ ρ ∧ RepPs K B H x v ∧ g v ρ (okW K dk vs Q B H σ ρ)
structure DGs (X : Cx) (dk : Dk) (vs : List Nat) (e : List Expr) (g : DTGs) : Prop where
  pg : PGs X e (tDGs X.K dk vs g)
  mono : MonoGs g
theorem PG.imp {X : Cx} {e : Expr} {t t' : TG} (h : PG X e t) (i : ∀ v σ H Q, t' v σ H Q → t v σ H Q) : PG X e t' := ⟨fun pins s σ H v u Q I r q => h.run pins s σ H v u Q I r (i _ _ _ _ q)⟩
theorem PGs.imp {X : Cx} {e : List Expr} {t t' : TGs} (h : PGs X e t) (i : ∀ v σ H Q, t' v σ H Q → t v σ H Q) : PGs X e t' := ⟨fun pins s σ H v u Q I r q => h.run pins s σ H v u Q I r (i _ _ _ _ q)⟩
def gdName (i : Nat) : DTG := fun v ρ Q => Q (ρ.set i (.val v))
def gdNil : DTGs := fun xs ρ Q => match xs with
  | [] => Q ρ
  | _ => False
def gdCons (g : DTG) (u : DTGs) : DTGs := fun xs ρ Q => match xs with
  | x :: r => g (.d x) ρ fun ρ' => u r ρ' Q
  | _ => False
def gdTup (n : Nat) (u : DTGs) : DTG := fun v ρ Q => match v with
  | .d (.tuple xs) => xs.length = n ∧ u xs ρ Q
  | _ => False
section
variable {X : Cx} {dk : Dk} {vs : List Nat} {e : Expr} {es : List Expr} {g : DTG} {u : DTGs} {pos : Pos}
theorem dg_name (i : Nat) {x : Str} (hN : X.N.Nodup) (hv : i ∈ vs := by decide) (hi : X.N[i]? = some x := by rfl) (hx : Loc X.env.scope x := by first | exact Or.inl rfl | exact Or.inr rfl)
    (hf : X.fn x = true ∨ X.env.scope.names.lookup x = some .local := by first | exact .inl rfl | exact .inr rfl | assumption) : DG X dk vs (.Name x pos) (gdName i) :=
  ⟨PG.imp (pg_name hN hi hx hf) fun x σ H Q ⟨B, ρ, v, r, rv, q⟩ => by
    obtain ⟨l', s'⟩ := r.set i rv
    exact q _ B H (wipe_in hv) l' s', fun v ρ Q Q' h q => h _ q⟩
theorem dgs_nil : DGs X dk vs [] gdNil := ⟨PGs.imp pgs_nil fun xs σ H Q ⟨B, ρ, v, r, rv, q⟩ => by
    cases rv with
    | nil => exact ⟨rfl, q σ B H rfl r Step.refl⟩
    | cons _ _ => exact q.elim, fun v ρ Q Q' h q => by
    cases v with
    | nil => exact h _ q
    | cons _ _ => exact q⟩
theorem dgs_cons (h1 : DG X dk vs e g) (h2 : DGs X dk vs es u) (hs : (assignEach (e :: es) X.env).map (·.2) = assign e X.env :: (assignEach es X.env).map (·.2) := by rfl) : DGs X dk vs (e :: es) (gdCons g u) :=
  ⟨PGs.imp (pgs_cons h1.pg h2.pg hs) fun xs σ H Q ⟨B, ρ, v, r, rv, q⟩ => by
    cases rv with
    | nil => exact q.elim
    | cons r1 rr => exact ⟨_, _, rfl, B, ρ, .d _, r, r1, h1.mono _ _ _ _ (fun ρ' z σ' B' H' w l s => ⟨B', ρ', _, l, RepPs.step s r.UB rr, h2.mono _ _ _ _ (fun ρ2 z σ2 B2 H2 w2 l2 s2 => z σ2 B2 H2 (w2.trans w) l2 (s.trans s2)) z⟩) q⟩, fun v ρ Q Q' h q => by
    cases v with
    | nil => exact q
    | cons _ _ => exact h1.mono _ _ _ _ (fun ρ' z => h2.mono _ _ _ _ h z) q⟩
theorem dg_tup {k n : Nat} (hc : X.calm = true) (h : DGs X dk vs es u) (hn : (assignEach es X.env).length = n := by rfl) (hst : (assignEach es X.env).findIdx? (·.1) = none := by rfl) : DG X dk vs (.Tuple es k pos) (gdTup n u) :=
  ⟨PG.imp (pg_tup hc h.pg hn hst) fun x σ H Q ⟨B, ρ, v, r, rv, q⟩ => by
    cases v with
    | deck => exact q.elim
    | d y =>
      cases y with
      | tuple xs =>
        obtain ⟨p, vs, rfl, hs, rp, hl⟩ := repTup rv
        exact ⟨p, vs, rfl, hs, by rw [rp.length]; exact q.1, B, ρ, xs, r, rp, q.2⟩
      | _ => exact q.elim, fun v ρ Q Q' hQ q => by
    cases v with
    | deck => exact q
    | d y =>
      cases y with
      | tuple xs => exact ⟨q.1, h.mono _ _ _ _ hQ q.2⟩
      | _ => exact q⟩
end
/-- target = value -/
def dAsgG (t : DTE) (g : DTG) : DTS := fun D ρ => t ρ (fun v ρ' => g v ρ' D.nx) D.ex
section
variable {X : Cx} {dk : Dk} {W : WX} {e tg : Expr} {t : DTE} {g : DTG} {vs : List Nat} {pos : Pos}
theorem ds_asg (h : DE X dk W e t) (hg : DG X dk vs tg g) (hs : swapsWithSole [tg] e pos.line X.env = pure false := by rfl) (hw : swappedStores [tg] e X.env = pure none := by rfl)
    (h1 : (assignEach [tg] X.env).map (·.2) = [assign tg X.env] := by rfl) : DS X dk W (.Assign [tg] e pos) (dAsgG t g) :=
  ⟨PS.imp (ps_asg h.pe hg.pg hs hw h1) fun D σ H ⟨B, ρ, r, q⟩ => bindE h.mono r q (fun _ _ _ z => exS.toE z) fun v ρ1 x B1 H1 p l s rv =>
    ⟨B1, ρ1, v, l, rv, hg.mono _ _ _ _ (fun ρ' z σ' B' H' w l' s' => okN.next s z σ' B' H' l' s') p⟩, fun D D' ρ h' q => h.mono _ _ _ _ _ (fun v ρ' q => hg.mono _ _ _ _ h'.nx q) h'.ex q⟩
end

/-! ### what a loop walks -/
abbrev DTI := Env → (List PyData → Env → Prop) → XQ → Prop
def MonoI (t : DTI) : Prop := ∀ ρ Q Q' (E E' : XQ), (∀ v ρ', Q v ρ' → Q' v ρ') → (∀ c th ρ', E c th ρ' → E' c th ρ') → t ρ Q E → t ρ Q' E'
/-- from (B, H) on, as long as nothing that is read changes, the iterator J gives what stands for xs -/
def ItOk (K : PySem.W.Frag) (U B : Addr → Prop) (H : Hp) (J : It) (xs : List PyData) : Prop :=
  ∀ (U2 B2 : Addr → Prop) (H2 : Hp), Step U B H U2 B2 H2 → (∀ a, B2 a → H2 a ≠ none) → ∀ i : Nat,
    (∀ x, xs[i]? = some x → J.go i H2 ∧ ∀ y H3, J.yld i H2 y H3 → Grow H2 H3 ∧ RepP K B2 H3 y x) ∧ (xs.length = i → J.stop i H2)
def okI (K : PySem.W.Frag) (dk : Dk) (R : It → Hp → Prop) (B : Addr → Prop) (H : Hp) (σ : L2.St) (ρ : Env) : List PyData → Env → Prop := fun xs ρ' => ∀ (B' : Addr → Prop) (H' : Hp) (J : It), Rel K dk B' H' σ ρ' → Step (UU dk σ ρ) B H (UU dk σ ρ') B' H' → ItOk K (UU dk σ ρ') B' H' J xs → xs.length ≤ sizeLine → R J H'
def tDI (K : PySem.W.Frag) (mg : Str → Option Value) (dk : Dk) (W : WX) (t : DTI) : TI := fun σ H R => ∃ (B : Addr → Prop) (ρ : Env), Rel K dk B H σ ρ ∧ t ρ (okI K dk R B H σ ρ) (exE K mg dk W B H σ ρ)
structure DI (X : Cx) (dk : Dk) (W : WX) (tg e : Expr) (t : DTI) : Prop where
  pi : PI X tg e (tDI X.K X.mg dk W t)
  mono : MonoI t
theorem PI.imp {X : Cx} {tg e : Expr} {t t' : TI} (h : PI X tg e t) (i : ∀ σ H R, t' σ H R → t σ H R) : PI X tg e t' := ⟨fun pins s σ H Q I q => h.run pins s σ H Q I (i _ _ _ q)⟩
theorem PI.or {X : Cx} {tg e : Expr} {t t' : TI} (h : PI X tg e t) (h' : PI X tg e t') : PI X tg e (fun σ H R => t σ H R ∨ t' σ H R) := ⟨fun pins s σ H Q I q => q.elim (h.run pins s σ H Q I) (h'.run pins s σ H Q I)⟩
theorem bindI {K : PySem.W.Frag} {mg : Str → Option Value} {dk : Dk} {W : WX} {B : Addr → Prop} {H : Hp} {σ : L2.St} {ρ : Env} {t : DTI} (m : MonoI t) (r : Rel K dk B H σ ρ) {F : List PyData → Env → Prop} {E : XQ} (h : t ρ F E) (hE : ∀ c th ρ', E c th ρ' → exE K mg dk W B H σ ρ c th ρ') {R : It → Hp → Prop}
    (hk : ∀ xs ρ1 B1 H1 J, F xs ρ1 → Rel K dk B1 H1 σ ρ1 → Step (UU dk σ ρ) B H (UU dk σ ρ1) B1 H1 → ItOk K (UU dk σ ρ1) B1 H1 J xs → xs.length ≤ sizeLine → R J H1) : tDI K mg dk W t σ H R :=
  ⟨B, ρ, r, m ρ _ _ _ _ (fun v ρ1 f B1 H1 J l s q n => hk v ρ1 B1 H1 J f l s q n) hE h⟩
/-- the items of a list, of a tuple -/
def dItems (t : DTE) : DTI := fun ρ Q E => t ρ (fun v ρ' => match v with
  | .d (.list xs) => Q xs ρ'
  | .d (.tuple xs) => Q xs ρ'
  | _ => False) E
/-- range(n), range(a, b) -/
def dRange1 (t : DTE) : DTI := fun ρ Q E => t ρ (fun v ρ' => match v with
  | .d (.int n) => n.natAbs ≤ 16777216 ∧ Q ((List.range n.toNat).map fun k : Nat => PyData.int ((0 : Int) + (k : Int))) ρ'
  | _ => False) E
def rangeOf : PyData → PyData → Option (List PyData)
  | .int a, .int b => if a.natAbs < 2 ^ 62 ∧ b.natAbs < 2 ^ 62 ∧ b - a ≤ 16777216 then some ((List.range (b - a).toNat).map fun k : Nat => PyData.int (a + (k : Int))) else none
  | _, _ => none
def dRange2 (t u : DTE) : DTI := fun ρ Q E => t ρ (fun v ρ1 => u ρ1 (fun w ρ2 => match v, w with
  | .d a, .d b => match rangeOf a b with
    | some xs => Q xs ρ2
    | none => False
  | _, _ => False) E) E
section
variable {X : Cx} {dk : Dk} {W : WX} {e f tg : Expr} {t : DTE} {a : DTA} {pos p : Pos}
theorem it_list {K : PySem.W.Frag} {U B : Addr → Prop} {H : Hp} {q : Addr} {vs : List V} {xs : List PyData} (hU : ∀ a, U a → B a) (h : H q = some (.lst vs)) (n : ¬ B q) (r : RepPs K B H vs xs) : ItOk K U B H (Itl K q) xs := fun U2 B2 H2 s ht i => by
  have h2 := s.keep _ _ h (fun z => n (hU _ z)) (fun _ z => nomatch z)
  have sq : SqL K H2 q vs := .inl (.inl h2)
  refine ⟨fun x hx => ?_, fun hi => ⟨vs, sq, by rw [r.length]; omega⟩⟩
  obtain ⟨u, hu, ru⟩ := r.get i hx
  refine ⟨⟨vs, u, sq, hu⟩, fun y H3 hy => ?_⟩
  obtain ⟨rfl, hy⟩ := hy
  have e := hy vs sq
  rw [hu] at e
  cases e
  exact ⟨Grow.refl _, RepP.step s hU ru⟩
theorem it_tup {K : PySem.W.Frag} {dk : Dk} {U B : Addr → Prop} {H : Hp} {x : V} {xs : List PyData} (hU : ∀ a, U a → B a) (h : RepV K dk B H x (.d (.tuple xs))) : ∃ q vs, x = .ref q ∧ SqT K H q vs ∧ ItOk K U B H (Itt K q) xs := by
  obtain ⟨q, vs, rfl, hs, r, hl⟩ := repTup h
  refine ⟨q, vs, rfl, hs, fun U2 B2 H2 s ht i => ?_⟩
  obtain ⟨q', vs', e, sq, r2, _⟩ := repTup (h.step s hU)
  cases e
  refine ⟨fun x hx => ?_, fun hi => ⟨vs', sq, by rw [r2.length]; omega⟩⟩
  obtain ⟨u, hu, ru⟩ := r2.get i hx
  refine ⟨⟨vs', u, sq, hu⟩, fun y H3 hy => ?_⟩
  obtain ⟨rfl, hy⟩ := hy
  have e := hy vs' sq
  rw [hu] at e
  cases e
  exact ⟨Grow.refl _, ru⟩
/-- what is walked is a list or a tuple, as it comes -/
def iSeq (K : PySem.W.Frag) (tl : TE) : TI := fun σ H R => tl σ H fun x H1 => ∃ a, x = .ref a ∧ (((∃ xs, SqL K H1 a xs) ∧ R (Itl K a) H1) ∨ ((∃ xs, SqT K H1 a xs) ∧ R (Itt K a) H1))
theorem pi_seq {tl : TE} (hl : PE X e tl) : PI X tg e (iSeq X.K tl) := ⟨fun pins s σ H R I h => thn (hl.run pins s σ H _ I h) fun v s1 ⟨x, H1, J, rx, a, ex, q⟩ => by
  cases ex
  cases rx
  have grown : ∀ (ob : Obj) (b : Addr) (u : Obj), s1.heap.get? b = some u → (s1.heap.push ob).get? b = some u := fun ob b u z => Heap.get?_push_of_some _ z
  have free : FpOk X pins H1 s1.heap.objs.size := J.fpOk (Nat.le_refl _) (J.hok.fresh (Nat.le_refl _))
  have only : ∀ b ∈ [s1.heap.objs.size], FpOk X pins H1 b := fun b hb => List.mem_singleton.mp hb ▸ free
  rcases q with ⟨⟨xs, sq⟩, q⟩ | ⟨⟨xs, sq⟩, q⟩
  · obtain ⟨its, rv, p, _⟩ := J.list sq
    exact wpAny_pyIter_list p.isList ⟨_, [s1.heap.objs.size], _, _, H1, rfl, J.kept (t' := s1.toks) (grown _), turn_list a _, ⟨_, Heap.get?_push_size _ rfl, rfl, rfl⟩, only, q⟩
  · obtain ⟨its, rv, p, _⟩ := J.tuple sq
    exact wpAny_pyIter_tuple (show s1.heap.IsTuple a its.toArray from p) ⟨_, [s1.heap.objs.size], _, _, H1, rfl, J.kept (t' := s1.toks) (grown _), turn_tuple a _, ⟨_, Heap.get?_push_size _ rfl, rfl, rfl⟩, only, q⟩⟩
theorem di_items (h : DE X dk W e t) : DI X dk W tg e (dItems t) :=
  ⟨PI.imp (pi_seq h.pe) fun σ H R ⟨B, ρ, r, q⟩ => bindE h.mono r q (fun _ _ _ z => z) fun v ρ1 x B1 H1 p l s rv => by
    cases v with
    | deck => exact p.elim
    | d y =>
      cases y with
      | list xs =>
        obtain ⟨qa, vs, rfl, hs, nb, rp, hl⟩ := repLst rv
        exact ⟨qa, rfl, .inl ⟨⟨vs, .inl (.inl hs)⟩, p B1 H1 _ l s (it_list l.UB hs nb rp) (by rw [← rp.length]; exact hl)⟩⟩
      | tuple xs =>
        obtain ⟨_, _, _, _, rp0, hl0⟩ := repTup rv
        obtain ⟨qa, vs, rfl, hs, io⟩ := it_tup l.UB rv
        exact ⟨qa, rfl, .inr ⟨⟨vs, hs⟩, p B1 H1 _ l s io (by rw [← rp0.length]; exact hl0)⟩⟩
      | _ => exact p.elim, fun ρ Q Q' E E' hQ hE q => h.mono ρ _ _ _ _ (fun v ρ' q => by
    cases v with
    | d y => cases y <;> first | exact hQ _ _ q | exact q
    | deck => exact q) hE q⟩
theorem it_range {K : PySem.W.Frag} {U B : Addr → Prop} {H : Hp} (lo : Int) (n : Nat) : ItOk K U B H (Itr lo n) ((List.range n).map fun k : Nat => PyData.int (lo + (k : Int))) := fun U2 B2 H2 s ht i => by
  refine ⟨fun x hx => ?_, fun hi => ?_⟩
  · rw [List.getElem?_map] at hx
    by_cases hn : i < n
    · rw [List.getElem?_range hn] at hx
      cases hx
      refine ⟨hn, fun y H3 hy => ?_⟩
      obtain ⟨rfl, rfl⟩ := hy
      exact ⟨Grow.refl _, .int _⟩
    · rw [List.getElem?_eq_none (by simpa using hn)] at hx
      cases hx
  · rw [List.length_map, List.length_range] at hi
    exact Nat.le_of_eq hi
theorem di_range1 (hg : Gl X "range") (hm : X.mg "range" = none) (h : DE X dk W e t) (hs : starEach [e] X.env = [(false, eval e X.env)] := by rfl) : DI X dk W tg (.Call (.Name "range" p) [e] [] pos) (dRange1 t) :=
  ⟨PI.imp (pi_range1 hg hm (pa_cons h.pe pa_nil hs) hs) fun σ H R ⟨B, ρ, r, q⟩ => bindE h.mono r q (fun _ _ _ z => z) fun v ρ1 x B1 H1 z l s rv => by
    cases v with
    | deck => exact z.elim
    | d y =>
      cases y with
      | int n =>
        obtain rfl := repInt rv
        obtain ⟨hn, z⟩ := z
        exact ⟨n, rfl, by omega, by omega, z B1 H1 _ l s (it_range 0 n.toNat) (by rw [List.length_map, List.length_range, sizeLine_eq]; omega)⟩
      | _ => exact z.elim, fun ρ Q Q' E E' hQ hE q => h.mono ρ _ _ _ _ (fun v ρ' q => by
    cases v with
    | d y => cases y <;> first | exact ⟨q.1, hQ _ _ q.2⟩ | exact q
    | deck => exact q) hE q⟩
theorem di_range2 {u : DTE} (hg : Gl X "range") (hm : X.mg "range" = none) (h : DE X dk W e t) (k : DE X dk W f u) (hs : starEach [e, f] X.env = [(false, eval e X.env), (false, eval f X.env)] := by rfl) (hs2 : starEach [f] X.env = [(false, eval f X.env)] := by rfl)
    (hs3 : starEach [e, f] X.env = (false, eval e X.env) :: starEach [f] X.env := by rfl) : DI X dk W tg (.Call (.Name "range" p) [e, f] [] pos) (dRange2 t u) :=
  ⟨PI.imp (pi_range2 hg hm (pa_cons h.pe (pa_cons k.pe pa_nil hs2) hs3) hs hs2) fun σ H R ⟨B, ρ, r, q⟩ => bindE h.mono r q (fun _ _ _ z => z) fun v ρ1 x B1 H1 z l s rv =>
    bindE k.mono l z (fun _ _ _ z => exE.next s z) fun w ρ2 y B2 H2 z l2 s2 rw => by
      cases v with
      | deck => exact z.elim
      | d a =>
        cases w with
        | deck => exact z.elim
        | d b =>
          have z : match rangeOf a b with
            | some xs => okI X.K dk R B H σ ρ xs ρ2
            | none => False := z
          cases a with
          | int a =>
            cases b with
            | int b =>
              obtain rfl := repInt rv
              obtain rfl := repInt rw
              by_cases hc : a.natAbs < 2 ^ 62 ∧ b.natAbs < 2 ^ 62 ∧ b - a ≤ 16777216
              · have e1 : rangeOf (.int a) (.int b) = some _ := if_pos hc
                rw [e1] at z
                exact ⟨a, b, rfl, by omega, z B2 H2 _ l2 (s.trans s2) (it_range a _) (by rw [List.length_map, List.length_range, sizeLine_eq]; omega)⟩
              · have e1 : rangeOf (.int a) (.int b) = none := if_neg hc
                rw [e1] at z
                exact z.elim
            | _ => exact z.elim
          | _ => cases b <;> exact z.elim, fun ρ Q Q' E E' hQ hE q => h.mono ρ _ _ _ _ (fun v ρ' q => k.mono _ _ _ _ _ (fun w ρ2 q => by
    cases v with
    | deck => exact q
    | d a =>
      cases w with
      | deck => exact q
      | d b =>
        have q : match rangeOf a b with
          | some xs => Q xs ρ2
          | none => False := q
        show match rangeOf a b with
          | some xs => Q' xs ρ2
          | none => False
        cases e1 : rangeOf a b with
        | none => rw [e1] at q; exact q
        | some xs => rw [e1] at q; exact hQ _ _ q) hE q) hE q⟩
end

/-! ### for, while -/
def loopL (g : DTG) (tb : DTS) (D : DEnds) : List PyData → Env → Prop
  | [], ρ => D.nx ρ
  | x :: xs, ρ => g (.d x) ρ fun ρ1 => tb { D with nx := loopL g tb D xs, ct := loopL g tb D xs, bk := D.nx } ρ1
def dFor (s : DTI) (g : DTG) (tb : DTS) : DTS := fun D ρ => s ρ (fun xs ρ' => loopL g tb D xs ρ') D.ex
def whileN (c : DTT) (tb : DTS) (D : DEnds) : Nat → Env → Prop
  | 0, _ => False
  | n + 1, ρ => c ρ (fun b ρ1 => if b = true then tb { D with nx := whileN c tb D n, ct := whileN c tb D n, bk := D.nx } ρ1 else D.nx ρ1) D.ex
def dWhile (c : DTT) (tb : DTS) : DTS := fun D ρ => ∃ n, whileN c tb D n ρ
section
variable {g : DTG} {tb : DTS} {c : DTT} {s : DTI}
theorem loop_mono (mg : MonoG g) (mb : MonoS tb) {D D' : DEnds} (h : DEnds.Le D D') : ∀ (xs : List PyData) (ρ : Env), loopL g tb D xs ρ → loopL g tb D' xs ρ
  | [], ρ, q => h.nx _ q
  | x :: xs, ρ, q => mg _ _ _ _ (fun ρ1 z => mb { D with nx := loopL g tb D xs, ct := loopL g tb D xs, bk := D.nx } _ _ ⟨fun ρ z => loop_mono mg mb h xs ρ z, h.rt, h.nx, fun ρ z => loop_mono mg mb h xs ρ z, h.ex⟩ z) q
theorem monoFor (ms : MonoI s) (mg : MonoG g) (mb : MonoS tb) : MonoS (dFor s g tb) := fun D D' ρ h q => ms _ _ _ _ _ (fun xs ρ' z => loop_mono mg mb h xs ρ' z) h.ex q
theorem while_mono (mc : MonoT c) (mb : MonoS tb) {D D' : DEnds} (h : DEnds.Le D D') : ∀ (n : Nat) (ρ : Env), whileN c tb D n ρ → whileN c tb D' n ρ
  | 0, ρ, q => q
  | n + 1, ρ, q => mc _ _ _ _ _ (fun b ρ1 z => by
    cases b with
    | true => exact mb { D with nx := whileN c tb D n, ct := whileN c tb D n, bk := D.nx } _ _ ⟨fun ρ z => while_mono mc mb h n ρ z, h.rt, h.nx, fun ρ z => while_mono mc mb h n ρ z, h.ex⟩ z
    | false => exact h.nx _ z) h.ex q
theorem monoWhile (mc : MonoT c) (mb : MonoS tb) : MonoS (dWhile c tb) := fun D D' ρ h ⟨n, q⟩ => ⟨n, while_mono mc mb h n ρ q⟩
end
section
variable {X : Cx} {dk : Dk} {W : WX} {vs : List Nat} {e tg : Expr} {body : List Stmt} {s : DTI} {g : DTG} {tb : DTS} {c : DTT} {pos : Pos}
theorem ds_for (hp : PassesOwn (model X.prog X.w) X.A X.env X.xe) (hc : X.calm = true) (hi : DI X dk W tg e s) (hg : DG X dk vs tg g) (hb : DSs X dk W body tb) (hs : ∀ x, foldedSetIterable e X.env x = pure x := by intro _; rfl) : DS X dk W (.For tg e body [] pos) (dFor s g tb) := by
  refine ⟨PS.imp (ps_for hp hc hi.pi hg.pg hb.ps hs) fun D σ H ⟨B, ρ, r, q⟩ => bindI hi.mono r q (fun _ _ _ z => exS.toE z) fun xs ρ1 B1 H1 J z l st io _ => ?_, monoFor hi.mono hg.mono hb.mono⟩
  have z := loop_mono hg.mono hb.mono (okD.next st D) xs ρ1 z
  refine ⟨fun i m σ2 H2 => i + m = xs.length ∧ ∃ B2 ρ2, Rel X.K dk B2 H2 σ2 ρ2 ∧ Step (UU dk σ ρ1) B1 H1 (UU dk σ2 ρ2) B2 H2 ∧ loopL g tb (okD X.K X.mg dk W D B1 H1 σ ρ1) (xs.drop i) ρ2, ⟨xs.length, Nat.zero_add _, B1, ρ1, l, Step.refl, z⟩, ?_⟩
  rintro i m σ2 H2 ⟨him, B2, ρ2, l2, s2, q2⟩
  obtain ⟨io1, io2⟩ := io _ _ _ s2 l2.trk i
  by_cases hi' : xs.length = i
  · refine .inl ⟨io2 hi', ?_⟩
    rw [List.drop_eq_nil_of_le (Nat.le_of_eq hi')] at q2
    exact q2 σ2 B2 H2 l2 s2
  · have hlt : i < xs.length := by omega
    obtain ⟨go, yl⟩ := io1 xs[i] (List.getElem?_eq_getElem hlt)
    rw [List.drop_eq_getElem_cons hlt] at q2
    refine .inr ⟨go, fun σ3 H3 => (i + 1) + (m - 1) = xs.length ∧ ∃ B3 ρ3, Rel X.K dk B3 H3 σ3 ρ3 ∧ Step (UU dk σ ρ1) B1 H1 (UU dk σ3 ρ3) B3 H3 ∧ loopL g tb (okD X.K X.mg dk W D B1 H1 σ ρ1) (xs.drop (i + 1)) ρ3, fun σ3 H3 n3 => ⟨m - 1, by omega, n3⟩, fun y H3 hy => ?_⟩
    obtain ⟨gr, ry⟩ := yl y H3 hy
    obtain ⟨l3, s3⟩ := l2.grow gr
    refine ⟨B2, ρ2, .d xs[i], l3, ry, hg.mono _ _ _ _ (fun ρ4 z4 σ4 B4 H4 _ l4 s4 => ?_) q2⟩
    have st4 := ((s2.trans s3).trans s4)
    refine ⟨B4, ρ4, l4, hb.mono { okD X.K X.mg dk W D B1 H1 σ ρ1 with nx := loopL g tb (okD X.K X.mg dk W D B1 H1 σ ρ1) (xs.drop (i + 1)), ct := loopL g tb (okD X.K X.mg dk W D B1 H1 σ ρ1) (xs.drop (i + 1)), bk := (okD X.K X.mg dk W D B1 H1 σ ρ1).nx } _ _ ⟨?_, ?_, ?_, ?_, ?_⟩ z4⟩
    · intro ρ5 z5 σ5 B5 H5 l5 s5
      exact ⟨by omega, B5, ρ5, l5, st4.trans s5, z5⟩
    · exact fun v ρ5 z5 => okR.next st4 z5
    · exact fun ρ5 z5 => okN.next st4 z5
    · intro ρ5 z5 σ5 B5 H5 l5 s5
      exact ⟨by omega, B5, ρ5, l5, st4.trans s5, z5⟩
    · exact fun cc th ρ5 z5 => exS.next st4 z5
theorem ds_while (hp : PassesOwn (model X.prog X.w) X.A X.env X.xe) (hc : DT X dk W e c) (hb : DSs X dk W body tb) : DS X dk W (.While e body [] pos) (dWhile c tb) := by
  refine ⟨PS.imp (ps_while hp hc.pt hb.ps) fun D σ H ⟨B, ρ, r, n, q⟩ => ?_, monoWhile hc.mono hb.mono⟩
  refine ⟨fun m σ2 H2 => ∃ B2 ρ2, Rel X.K dk B2 H2 σ2 ρ2 ∧ Step (UU dk σ ρ) B H (UU dk σ2 ρ2) B2 H2 ∧ whileN c tb (okD X.K X.mg dk W D B H σ ρ) m ρ2, ⟨n, B, ρ, r, Step.refl, q⟩, ?_⟩
  rintro m σ2 H2 ⟨B2, ρ2, l2, s2, q2⟩
  cases m with
  | zero => exact q2.elim
  | succ m =>
    refine bindT hc.mono l2 q2 (fun _ _ _ z => exE.next Step.refl (exS.toE (exS.next s2 z))) fun b ρ3 B3 H3 z l3 s3 => ?_
    cases b with
    | false => exact z σ2 B3 H3 l3 (s2.trans s3)
    | true =>
      have st := s2.trans s3
      refine ⟨fun σ4 H4 => ∃ B4 ρ4, Rel X.K dk B4 H4 σ4 ρ4 ∧ Step (UU dk σ ρ) B H (UU dk σ4 ρ4) B4 H4 ∧ whileN c tb (okD X.K X.mg dk W D B H σ ρ) m ρ4, fun σ4 H4 w => ⟨m, Nat.lt_succ_self m, w⟩, ?_⟩
      refine ⟨B3, ρ3, l3, hb.mono { okD X.K X.mg dk W D B H σ ρ with nx := whileN c tb (okD X.K X.mg dk W D B H σ ρ) m, ct := whileN c tb (okD X.K X.mg dk W D B H σ ρ) m, bk := (okD X.K X.mg dk W D B H σ ρ).nx } _ _ ⟨?_, ?_, ?_, ?_, ?_⟩ z⟩
      · exact fun ρ5 z5 σ5 B5 H5 l5 s5 => ⟨B5, ρ5, l5, st.trans s5, z5⟩
      · exact fun v ρ5 z5 => okR.next st z5
      · exact fun ρ5 z5 => okN.next st z5
      · exact fun ρ5 z5 σ5 B5 H5 l5 s5 => ⟨B5, ρ5, l5, st.trans s5, z5⟩
      · exact fun cc th ρ5 z5 => exS.next st z5
end
end DL
set_option maxHeartbeats 4000000
/-! D8: lists of a name's own: made, changed, stored side by side. -/
namespace DL
open PySem PySem.Spec
open PyProof.Rows hiding St
open L2

/-- values that lie ready to be stored; F: the lists among them that belong to nobody else -/
inductive Items (K : PySem.W.Frag) (dk : Dk) (B : Addr → Prop) (H : Hp) (U : Addr → Prop) (H0 : Hp) : List V → List Slot → List Addr → Prop
  | nil : Items K dk B H U H0 [] [] []
  | val {x : V} {v : Val} {xs : List V} {ss : List Slot} {F : List Addr} : RepV K dk B H x v → Items K dk B H U H0 xs ss F → Items K dk B H U H0 (x :: xs) (.val v :: ss) F
  | own {a : Addr} {vs : List V} {ds : List PyData} {xs : List V} {ss : List Slot} {F : List Addr} : H a = some (.lst vs) → B a → ¬ U a → H0 a = none → a ∉ F → vs.length ≤ sizeLine → RepPs K B H vs ds → Items K dk B H U H0 xs ss F → Items K dk B H U H0 (.ref a :: xs) (.own ds :: ss) (a :: F)
section
variable {K : PySem.W.Frag} {dk : Dk} {B B' U U' : Addr → Prop} {H H' H0 H1 : Hp} {σ σ' : L2.St} {ρ ρ' : Env}
theorem Items.fresh {xs : List V} {ss : List Slot} {F : List Addr} (h : Items K dk B H U H0 xs ss F) : ∀ a ∈ F, H0 a = none := by
  induction h with
  | nil => intro a ha; cases ha
  | val _ _ ih => exact ih
  | own _ _ _ h0 _ _ _ _ ih =>
    intro b hb
    rcases List.mem_cons.mp hb with rfl | hb
    · exact h0
    · exact ih b hb
theorem Items.early {xs : List V} {ss : List Slot} {F : List Addr} (h : Items K dk B H U H1 xs ss F) (t : ∀ a, H0 a ≠ none → H1 a ≠ none) : Items K dk B H U H0 xs ss F := by
  induction h with
  | nil => exact .nil
  | val r _ ih => exact .val r ih
  | @own a vs ds xs ss F h1 h2 h3 h4 h5 h6 h7 _ ih =>
    refine .own h1 h2 h3 ?_ h5 h6 h7 ih
    by_cases e : H0 a = none
    · exact e
    · exact absurd h4 (t a e)
/-- one slot is stored -/
theorem Rel.setS (r : Rel K dk B H σ ρ) (i : Nat) {x : V} {s : Slot} (hs : SlotR K dk B H (some (some x)) s) (ho : s.isOwn = true → ∀ a, x = .ref a → B a ∧ ¬ UU dk σ ρ a) : Rel K dk B H (σ.set i (some x)) (ρ.set i s) := by
  have ownS : ∀ {j b}, OwnAt (σ.set i (some x)) (ρ.set i s) j b → (j ≠ i ∧ OwnAt σ ρ j b) ∨ (j = i ∧ x = .ref b ∧ s.isOwn = true) := fun {j b} ⟨s', e, o, q⟩ => by
    rcases get_set e with ⟨rfl, rfl, hl⟩ | ⟨n, e'⟩
    · rw [List.getElem?_set_self (by rw [r.len]; exact hl)] at q
      cases q
      exact .inr ⟨rfl, rfl, o⟩
    · rw [List.getElem?_set_ne n] at q
      exact .inl ⟨fun z => n z.symm, s', e', o, q⟩
  refine ⟨by rw [List.length_set, List.length_set]; exact r.len, fun j s' e => ?_, fun j k b h1 h2 => ?_, fun j b h => ?_, r.deck, r.deckB, r.trk⟩
  · rcases get_set e with ⟨rfl, rfl, hl⟩ | ⟨n, e'⟩
    · rw [List.getElem?_set_self (by rw [r.len]; exact hl)]
      exact hs
    · rw [List.getElem?_set_ne n]
      exact r.slot j s' e'
  · rcases ownS h1 with ⟨n1, o1⟩ | ⟨e1, x1, p1⟩ <;> rcases ownS h2 with ⟨n2, o2⟩ | ⟨e2, x2, p2⟩
    · exact r.sep j k b o1 o2
    · exact absurd (Or.inr ⟨j, o1⟩) (ho p2 b x2).2
    · exact absurd (Or.inr ⟨k, o2⟩) (ho p1 b x1).2
    · rw [e1, e2]
  · rcases ownS h with ⟨_, o1⟩ | ⟨_, x1, p1⟩
    · exact r.ownB j b o1
    · exact ⟨(ho p1 b x1).1, fun z => (ho p1 b x1).2 (.inl z)⟩
theorem UU.setS {i : Nat} {x : V} {s : Slot} {a : Addr} (h : UU dk (σ.set i (some x)) (ρ.set i s) a) : UU dk σ ρ a ∨ (s.isOwn = true ∧ x = .ref a) := by
  rcases h with h | ⟨j, s', e, o, q⟩
  · exact .inl (.inl h)
  · rcases get_set e with ⟨rfl, rfl, hl⟩ | ⟨n, e'⟩
    · by_cases hi : i < σ.length
      · rw [List.getElem?_set_self hi] at q
        cases q
        exact .inr ⟨o, rfl⟩
      · rw [List.getElem?_eq_none (by simpa using hi)] at q
        cases q
    · rw [List.getElem?_set_ne n] at q
      exact .inl (.inr ⟨j, s', e', o, q⟩)
def setVs (σ : L2.St) : List Nat → List V → L2.St
  | i :: is, x :: xs => setVs (σ.set i (some x)) is xs
  | _, _ => σ
def setSs (ρ : Env) : List Nat → List Slot → Env
  | i :: is, x :: xs => setSs (ρ.set i x) is xs
  | _, _ => ρ
theorem Rel.items {U0 B0 : Addr → Prop} : ∀ {is : List Nat} {xs : List V} {ss : List Slot} {F : List Addr} {σ : L2.St} {ρ : Env}, Rel K dk B H σ ρ → Items K dk B H (UU dk σ ρ) H0 xs ss F → Step U0 B0 H0 (UU dk σ ρ) B H →
    Rel K dk B H (setVs σ is xs) (setSs ρ is ss) ∧ Step U0 B0 H0 (UU dk (setVs σ is xs) (setSs ρ is ss)) B H
  | [], xs, ss, F, σ, ρ, r, h, s => by
    cases xs <;> cases ss <;> exact ⟨r, s⟩
  | i :: is, [], ss, F, σ, ρ, r, h, s => by
    cases h
    exact ⟨r, s⟩
  | i :: is, x :: xs, ss, F, σ, ρ, r, h, s => by
    -- the rest keeps its items behind one store
    have next : ∀ {s' : Slot} {xs : List V} {ss : List Slot} {F : List Addr}, (∀ a ∈ F, ¬ (s'.isOwn = true ∧ x = .ref a)) → Items K dk B H (UU dk σ ρ) H0 xs ss F → Items K dk B H (UU dk (σ.set i (some x)) (ρ.set i s')) H0 xs ss F := fun {s' xs ss F} hn h => by
      induction h with
      | nil => exact .nil
      | val r _ ih => exact .val r (ih hn)
      | own h1 h2 h3 h4 h5 h6 h7 _ ih =>
        exact .own h1 h2 (fun z => (UU.setS z).elim h3 (hn _ List.mem_cons_self)) h4 h5 h6 h7 (ih fun a ha => hn a (List.mem_cons_of_mem _ ha))
    cases h with
    | val rv t =>
      have r' := r.setS i (s := .val _) ⟨x, rfl, rv⟩ (fun z => by cases z)
      refine Rel.items (is := is) r' (next (fun a _ z => by cases z.1) t) ⟨s.keep, s.trk, s.stay, s.bnew, fun a h => ?_⟩
      rcases UU.setS h with z | z
      · exact s.unew a z
      · cases z.1
    | @own a vs ds _ _ F' h1 h2 h3 h4 h5 h6 h7 t =>
      have r' := r.setS i (s := .own ds) (x := .ref a) ⟨a, vs, rfl, h1, h6, h7⟩ (fun _ b e => by cases e; exact ⟨h2, h3⟩)
      refine Rel.items (is := is) r' (next (fun b hb z => by cases z.2; exact h5 hb) t) ⟨s.keep, s.trk, s.stay, s.bnew, fun b h => ?_⟩
      rcases UU.setS h with z | z
      · exact s.unew b z
      · cases z.2
        exact .inr h4
end

/-! ### fresh lists -/
abbrev DLE := Env → (List PyData → Env → Prop) → XQ → Prop
def okF (K : PySem.W.Frag) (dk : Dk) (Q : VK) (B : Addr → Prop) (H : Hp) (σ : L2.St) (ρ : Env) : List PyData → Env → Prop := fun xs ρ' => ∀ (vs : List V) (p : Addr) (B' : Addr → Prop) (H' : Hp), Rel K dk B' H' σ ρ' → Step (UU dk σ ρ) B H (UU dk σ ρ') B' H' →
  H' p = some (.lst vs) → B' p → ¬ UU dk σ ρ' p → H p = none → vs.length ≤ sizeLine → RepPs K B' H' vs xs → Q (.ref p) H'
def tDF (K : PySem.W.Frag) (mg : Str → Option Value) (dk : Dk) (W : WX) (t : DLE) : TE := fun σ H Q => ∃ (B : Addr → Prop) (ρ : Env), Rel K dk B H σ ρ ∧ t ρ (okF K dk Q B H σ ρ) (exE K mg dk W B H σ ρ)
structure DF (X : Cx) (dk : Dk) (W : WX) (e : Expr) (t : DLE) : Prop where
  pe : PE X e (tDF X.K X.mg dk W t)
  mono : MonoI t
section
variable {K : PySem.W.Frag} {mg : Str → Option Value} {dk : Dk} {W : WX} {B : Addr → Prop} {H : Hp} {σ : L2.St} {ρ : Env}
theorem bindF {t : DLE} (m : MonoI t) (r : Rel K dk B H σ ρ) {F : List PyData → Env → Prop} {E : XQ} (h : t ρ F E) (hE : ∀ c th ρ', E c th ρ' → exE K mg dk W B H σ ρ c th ρ') {R : V → Hp → Prop}
    (hk : ∀ xs ρ1 vs p B1 H1, F xs ρ1 → Rel K dk B1 H1 σ ρ1 → Step (UU dk σ ρ) B H (UU dk σ ρ1) B1 H1 → H1 p = some (.lst vs) → B1 p → ¬ UU dk σ ρ1 p → H p = none → vs.length ≤ sizeLine → RepPs K B1 H1 vs xs → R (.ref p) H1) : tDF K mg dk W t σ H R :=
  ⟨B, ρ, r, m ρ _ _ _ _ (fun xs ρ1 f vs p B1 H1 l s h1 h2 h3 h4 h5 h6 => hk xs ρ1 vs p B1 H1 f l s h1 h2 h3 h4 h5 h6) hE h⟩
/-- a list just laid, its items ready -/
theorem Rel.fresh (r : Rel K dk B H σ ρ) {p : Addr} {vs : List V} {xs : List PyData} (hp : H p = none) (rp : RepPs K B H vs xs) :
    Rel K dk (fun a => B a ∨ a = p) (upd H p (.lst vs)) σ ρ ∧ Step (UU dk σ ρ) B H (UU dk σ ρ) (fun a => B a ∨ a = p) (upd H p (.lst vs)) ∧ ¬ UU dk σ ρ p ∧ RepPs K (fun a => B a ∨ a = p) (upd H p (.lst vs)) vs xs := by
  have g := Grow.upd (o := HO.lst vs) hp
  have st : Step (UU dk σ ρ) B H (UU dk σ ρ) (fun a => B a ∨ a = p) (upd H p (.lst vs)) := ⟨fun a o h _ _ => g a o h, (g.keep r.deck).trk, fun _ h _ _ => .inl h, fun a h => h.elim .inl fun e => .inr (e ▸ hp), fun _ h => .inl h⟩
  have nu : ¬ UU dk σ ρ p := fun z => r.trk p (r.UB p z) hp
  refine ⟨⟨r.len, fun i s e => (r.slot i s e).step st r.UB fun a _ _ u hu => g a u hu, r.sep, fun i a h => ⟨.inl (r.ownB i a h).1, (r.ownB i a h).2⟩, (g.keep r.deck).deck, fun a h => .inl (r.deckB a h), fun a h => ?_⟩, st, nu, RepPs.step st r.UB rp⟩
  rcases h with h | rfl
  · exact (g.keep r.deck).trk a (r.trk a h)
  · rw [upd_same]; simp
/-- a fresh list is closed -/
theorem Rel.free (r : Rel K dk B H σ ρ) {p : Addr} (nu : ¬ UU dk σ ρ p) : Rel K dk (fun b => B b ∧ b ≠ p) H σ ρ :=
  ⟨r.len, fun i s e => by
    have q := r.slot i s e
    have sub : ∀ b, (B b ∧ b ≠ p) → B b := fun b h => h.1
    cases s with
    | un => trivial
    | val v' => obtain ⟨x, e1, q⟩ := q; exact ⟨x, e1, q.less sub⟩
    | own xs => obtain ⟨b, vs, e1, e2, l, q⟩ := q; exact ⟨b, vs, e1, e2, l, RepPs.less sub q⟩
    | ownD xs => obtain ⟨b, vs, e1, e2, l, q⟩ := q; exact ⟨b, vs, e1, e2, l, RepKs.less sub q⟩, r.sep, fun i a h => ⟨⟨(r.ownB i a h).1, fun z => nu (.inr ⟨i, z ▸ h⟩)⟩, (r.ownB i a h).2⟩, r.deck, fun a h => ⟨r.deckB a h, fun z => nu (.inl (z ▸ h))⟩, fun a h => r.trk a h.1⟩
end
def dOfF (t : DLE) : DTE := fun ρ Q E => t ρ (fun xs ρ' => Q (.d (.list xs)) ρ') E
section
variable {X : Cx} {dk : Dk} {W : WX} {e f : Expr} {es : List Expr} {t : DLE} {u : DTE} {a : DTA} {pos p : Pos}
theorem de_ofF (h : DF X dk W e t) : DE X dk W e (dOfF t) :=
  ⟨PE.imp h.pe fun σ H Q ⟨B, ρ, r, q⟩ => bindF h.mono r q (fun _ _ _ z => z) fun xs ρ1 vs p B1 H1 z l s h1 h2 h3 h4 h5 h6 => by
    have l' := l.free h3
    refine z (.ref p) _ H1 l' ⟨s.keep, s.trk, fun b hb n t => ⟨s.stay b hb n t, fun e => t (e ▸ h4)⟩, fun b hb => s.bnew b hb.1, s.unew⟩ ?_
    exact .list h1 (fun z => z.2 rfl) h5 (RepPs.less (fun b z => z.1) h6), fun ρ Q Q' E E' hQ hE q => h.mono ρ _ _ _ _ (fun v ρ' q => hQ _ _ q) hE q⟩
/-- a list display -/
def dFLst (a : DTA) : DLE := fun ρ Q E => a ρ (fun vs ρ' => match datas vs with
  | some xs => xs.length ≤ sizeLine ∧ Q xs ρ'
  | none => False) E
theorem df_lst (h : DA X dk W es a) : DF X dk W (.List es pos) (dFLst a) :=
  ⟨PE.imp (pe_lst h.pa) fun σ H Q ⟨B, ρ, r, q⟩ => bindA h.mono r q (fun _ _ _ z => z) fun vs ρ1 xs B1 H1 p l s rv => by
    cases e : datas vs with
    | none => rw [e] at p; exact p.elim
    | some ys =>
      rw [e] at p
      have rp := datas_rep rv e
      have hl : xs.length ≤ sizeLine := by rw [rp.length]; exact p.1
      refine ⟨hl, fun np hp => ?_⟩
      obtain ⟨l', s', nu, rp'⟩ := l.fresh hp rp
      refine p.2 xs np _ _ l' (s.trans s') upd_same (.inr rfl) nu ?_ hl rp'
      by_cases z : H np = none
      · exact z
      · exact absurd hp (s.trk np z), fun ρ Q Q' E E' hQ hE h' => h.mono ρ _ _ _ _ (fun v ρ' q => by
  cases e : datas v with
  | none => rw [e] at q; exact q
  | some xs => rw [e] at q; exact ⟨q.1, hQ _ _ q.2⟩) hE h'⟩
/-- list(x) -/
def dFList (t : DTE) : DLE := fun ρ Q E => t ρ (fun v ρ' => match v with
  | .d (.tuple xs) => Q xs ρ'
  | .d (.list xs) => Q xs ρ'
  | _ => False) E
theorem df_list (hg : Gl X "list") (hm : X.mg "list" = none) (h : DE X dk W e u) (he : starEach [e] X.env = (false, eval e X.env) :: starEach [] X.env := by rfl) (hpl : (backTo pos (starEach [] X.env)).any (·.1) = false := by rfl) : DF X dk W (.Call (.Name "list" p) [e] [] pos) (dFList u) :=
  ⟨PE.imp (pe_callTy call_list_of hg hm (by decide +kernel) (pa_cons h.pe pa_nil he) (by decide) (by decide) he hpl) fun σ H Q ⟨B, ρ, r, q⟩ => bindE h.mono r q (fun _ _ _ z => z) fun v ρ1 x B1 H1 z l s rv => by
    have fin : ∀ {q : Addr} {vs : List V} {xs : List PyData}, okF X.K dk Q B H σ ρ xs ρ1 → RepPs X.K B1 H1 vs xs → vs.length ≤ sizeLine → ∀ np, H1 np = none → Q (.ref np) (upd H1 np (.lst vs)) := fun {q vs xs} z rp hl np hp => by
      obtain ⟨l', s', nu, rp'⟩ := l.fresh hp rp
      refine z vs np _ _ l' (s.trans s') upd_same (.inr rfl) nu ?_ hl rp'
      by_cases z : H np = none
      · exact z
      · exact absurd hp (s.trk np z)
    cases v with
    | deck => exact z.elim
    | d y =>
      cases y with
      | tuple xs =>
        obtain ⟨q, vs, rfl, hs, rp, hl⟩ := repTup rv
        exact ⟨q, vs, rfl, .inr hs, fin (q := q) z rp hl⟩
      | list xs =>
        obtain ⟨q, vs, rfl, hs, _, rp, hl⟩ := repLst rv
        exact ⟨q, vs, rfl, .inl (.inl (.inl hs)), fin (q := q) z rp hl⟩
      | _ => exact z.elim, fun ρ Q Q' E E' hQ hE q => h.mono ρ _ _ _ _ (fun v ρ' q => by
    cases v with
    | d y => cases y <;> first | exact hQ _ _ q | exact q
    | deck => exact q) hE q⟩

/-! ### stores side by side -/
abbrev DTF := Env → (List Slot → Env → Prop) → XQ → Prop
def MonoP (t : DTF) : Prop := ∀ ρ Q Q' (E E' : XQ), (∀ v ρ', Q v ρ' → Q' v ρ') → (∀ c th ρ', E c th ρ' → E' c th ρ') → t ρ Q E → t ρ Q' E'
def okP (K : PySem.W.Frag) (dk : Dk) (Q : List V → Hp → Prop) (B : Addr → Prop) (H : Hp) (σ : L2.St) (ρ : Env) : List Slot → Env → Prop := fun ss ρ' => ∀ (xs : List V) (F : List Addr) (B' : Addr → Prop) (H' : Hp), Rel K dk B' H' σ ρ' → Step (UU dk σ ρ) B H (UU dk σ ρ') B' H' → Items K dk B' H' (UU dk σ ρ') H xs ss F → Q xs H'
def tDP (K : PySem.W.Frag) (mg : Str → Option Value) (dk : Dk) (W : WX) (t : DTF) : TA := fun σ H Q => ∃ (B : Addr → Prop) (ρ : Env), Rel K dk B H σ ρ ∧ t ρ (okP K dk Q B H σ ρ) (exE K mg dk W B H σ ρ)
structure DP (X : Cx) (dk : Dk) (W : WX) (es : List Expr) (t : DTF) : Prop where
  pa : PA X es (tDP X.K X.mg dk W t)
  mono : MonoP t
def dpNil : DTF := fun ρ Q _ => Q [] ρ
def dpVal (t : DTE) (u : DTF) : DTF := fun ρ Q E => t ρ (fun v ρ1 => u ρ1 (fun ss ρ2 => Q (.val v :: ss) ρ2) E) E
def dpOwn (t : DLE) (u : DTF) : DTF := fun ρ Q E => t ρ (fun xs ρ1 => u ρ1 (fun ss ρ2 => Q (.own xs :: ss) ρ2) E) E
variable {k : DTF}
theorem dp_nil : DP X dk W [] dpNil := ⟨PA.imp pa_nil fun σ H Q ⟨B, ρ, r, q⟩ => q [] [] B H r Step.refl .nil, fun ρ Q Q' E E' hQ _ h => hQ _ _ h⟩
theorem dp_val (h : DE X dk W e u) (hk : DP X dk W es k) (hs : starEach (e :: es) X.env = (false, eval e X.env) :: starEach es X.env := by rfl) : DP X dk W (e :: es) (dpVal u k) :=
  ⟨PA.imp (pa_cons h.pe hk.pa hs) fun σ H Q ⟨B, ρ, r, q⟩ => bindE h.mono r q (fun _ _ _ z => z) fun v ρ1 x B1 H1 z l s rv =>
    ⟨B1, ρ1, l, hk.mono _ _ _ _ _ (fun ss ρ2 z2 xs F B2 H2 l2 s2 it => z2 (x :: xs) F B2 H2 l2 (s.trans s2) (.val (rv.step s2 l.UB) (it.early s.trk))) (fun _ _ _ z => exE.next s z) z⟩, fun ρ Q Q' E E' hQ hE q => h.mono ρ _ _ _ _ (fun v ρ' q => hk.mono _ _ _ _ _ (fun ss ρ2 q => hQ _ _ q) hE q) hE q⟩
theorem dp_own (h : DF X dk W e t) (hk : DP X dk W es k) (hs : starEach (e :: es) X.env = (false, eval e X.env) :: starEach es X.env := by rfl) : DP X dk W (e :: es) (dpOwn t k) :=
  ⟨PA.imp (pa_cons h.pe hk.pa hs) fun σ H Q ⟨B, ρ, r, q⟩ => bindF h.mono r q (fun _ _ _ z => z) fun xs ρ1 vs p B1 H1 z l s h1 h2 h3 h4 h5 h6 =>
    ⟨B1, ρ1, l, hk.mono _ _ _ _ _ (fun ss ρ2 z2 ys F B2 H2 l2 s2 it => by
      have k1 := s2.keep p _ h1 h3 (fun _ z => nomatch z)
      have k2 := s2.stay p h2 h3 (by rw [h1]; simp)
      have k3 : ¬ UU dk σ ρ2 p := fun z => by
        rcases s2.unew p z with z | z
        · exact h3 z
        · rw [h1] at z; cases z
      exact z2 (.ref p :: ys) (p :: F) B2 H2 l2 (s.trans s2) (.own k1 k2 k3 h4 (fun z => by have := it.fresh p z; rw [h1] at this; cases this) h5 (RepPs.step s2 l.UB h6) (it.early s.trk))) (fun _ _ _ z => exE.next s z) z⟩, fun ρ Q Q' E E' hQ hE q => h.mono ρ _ _ _ _ (fun v ρ' q => hk.mono _ _ _ _ _ (fun ss ρ2 q => hQ _ _ q) hE q) hE q⟩
/-- a, b, .. = e, f, .. -/
def dPar (is : List Nat) (t : DTF) : DTS := fun D ρ => t ρ (fun ss ρ' => ss.length = is.length ∧ D.nx (setSs ρ' is ss)) D.ex
theorem monoPar {is : List Nat} (m : MonoP k) : MonoS (dPar is k) := fun D D' ρ h q => m _ _ _ _ _ (fun v ρ' q => ⟨q.1, h.nx _ q.2⟩) h.ex q
theorem Items.length {K : PySem.W.Frag} {B U : Addr → Prop} {H H0 : Hp} {xs : List V} {ss : List Slot} {F : List Addr} (h : Items K dk B H U H0 xs ss F) : xs.length = ss.length := by
  induction h with
  | nil => rfl
  | val _ _ ih => simp [ih]
  | own _ _ _ _ _ _ _ _ ih => simp [ih]
theorem ds_par2 {i j : Nat} {x y : Str} {b c : Expr} {px py pt : Pos} {kt k2 pt2} (hc : X.calm = true) (hN : X.N.Nodup) (h : DP X dk W [b, c] k) (hi : X.N[i]? = some x := by rfl) (hj : X.N[j]? = some y := by rfl) (hij : i ≠ j := by decide)
    (hx : X.env.scope.names.lookup x = some .local := by rfl) (hy : X.env.scope.names.lookup y = some .local := by rfl)
    (hw : swappedStores [.Tuple [.Name x px, .Name y py] kt pt] (.Tuple [b, c] k2 pt2) X.env = pure (some [x, y]) := by rfl)
    (hs : swapsWithSole [.Tuple [.Name x px, .Name y py] kt pt] (.Tuple [b, c] k2 pt2) pos.line X.env = pure false := by rfl) :
    DS X dk W (.Assign [.Tuple [.Name x px, .Name y py] kt pt] (.Tuple [b, c] k2 pt2) pos) (dPar [i, j] k) :=
  ⟨PS.imp (ps_par hc hN hi hj hij hx hy h.pa hw hs) fun D σ H ⟨B, ρ, r, q⟩ => ⟨B, ρ, r, h.mono _ _ _ _ _ (fun ss ρ1 z xs F B1 H1 l s it => by
    have hl := it.length
    rw [z.1] at hl
    match xs, hl, it with
    | [v, w], _, it =>
      refine ⟨v, w, rfl, ?_⟩
      obtain ⟨l', s'⟩ := Rel.items (is := [i, j]) l it s
      exact z.2 _ B1 H1 l' s') (fun _ _ _ z => exS.toE z) q⟩, monoPar h.mono⟩
theorem ds_par3 {i j l : Nat} {x y z : Str} {b c d : Expr} {px py pz pt : Pos} {kt k2 pt2} (hc : X.calm = true) (hN : X.N.Nodup) (h : DP X dk W [b, c, d] k) (hi : X.N[i]? = some x := by rfl) (hj : X.N[j]? = some y := by rfl) (hl : X.N[l]? = some z := by rfl) (hij : i ≠ j := by decide) (hil : i ≠ l := by decide) (hjl : j ≠ l := by decide)
    (hx : X.env.scope.names.lookup x = some .local := by rfl) (hy : X.env.scope.names.lookup y = some .local := by rfl) (hz : X.env.scope.names.lookup z = some .local := by rfl)
    (hw : swappedStores [.Tuple [.Name x px, .Name y py, .Name z pz] kt pt] (.Tuple [b, c, d] k2 pt2) X.env = pure (some [x, y, z]) := by rfl)
    (hs : swapsWithSole [.Tuple [.Name x px, .Name y py, .Name z pz] kt pt] (.Tuple [b, c, d] k2 pt2) pos.line X.env = pure false := by rfl) :
    DS X dk W (.Assign [.Tuple [.Name x px, .Name y py, .Name z pz] kt pt] (.Tuple [b, c, d] k2 pt2) pos) (dPar [i, j, l] k) :=
  ⟨PS.imp (ps_par3 hc hN hi hj hl hij hil hjl hx hy hz h.pa hw hs) fun D σ H ⟨B, ρ, r, q⟩ => ⟨B, ρ, r, h.mono _ _ _ _ _ (fun ss ρ1 z xs F B1 H1 l0 s it => by
    have hl := it.length
    rw [z.1] at hl
    match xs, hl, it with
    | [v, w, u], _, it =>
      refine ⟨v, w, u, rfl, ?_⟩
      obtain ⟨l', s'⟩ := Rel.items (is := [i, j, l]) l0 it s
      exact z.2 _ B1 H1 l' s') (fun _ _ _ z => exS.toE z) q⟩, monoPar h.mono⟩
end
end DL
set_option maxHeartbeats 4000000
/-! D9: a tuple of names stored, one of them captured; append, extend, pop; n += e; len, in of a list of one's own. -/
namespace DL
open PySem PySem.Spec
open PyProof.Rows hiding St
open L2

section
variable {K : PySem.W.Frag} {dk : Dk} {B B' U U' : Addr → Prop} {H H' H0 H1 : Hp} {σ σ' : L2.St} {ρ ρ' : Env}
theorem Items.step (s : Step U B H U' B' H') (hU : ∀ a, U a → B a) {xs : List V} {ss : List Slot} {F : List Addr} (h : Items K dk B H U H0 xs ss F) : Items K dk B' H' U' H0 xs ss F := by
  induction h with
  | nil => exact .nil
  | val r _ ih => exact .val (r.step s hU) ih
  | own h1 h2 h3 h4 h5 h6 h7 _ ih =>
    refine .own (s.keep _ _ h1 h3 fun _ z => nomatch z) (s.stay _ h2 h3 (by rw [h1]; simp)) (fun z => ?_) h4 h5 h6 (RepPs.step s hU h7) ih
    rcases s.unew _ z with z | z
    · exact h3 z
    · rw [h1] at z; cases z
end
def gNames (is : List Nat) : TGs := fun vs σ H Q => vs.length = is.length ∧ Q (setVs σ is vs) H
section
variable {X : Cx} {dk : Dk} {W : WX} {e f : Expr} {es ts : List Expr} {k : DTF} {pos : Pos}
theorem pgn_nil : PGs X [] (gNames []) := PGs.imp pgs_nil fun v σ H Q h => ⟨List.eq_nil_of_length_eq_zero h.1, by
  have e := List.eq_nil_of_length_eq_zero h.1
  subst e
  exact h.2⟩
theorem pgn_cons {i : Nat} {is : List Nat} (h1 : PG X e (gName i)) (h2 : PGs X es (gNames is)) (hs : (assignEach (e :: es) X.env).map (·.2) = assign e X.env :: (assignEach es X.env).map (·.2) := by rfl) : PGs X (e :: es) (gNames (i :: is)) :=
  PGs.imp (pgs_cons h1 h2 hs) fun v σ H Q h => by
    obtain ⟨hl, h⟩ := h
    cases v with
    | nil => cases hl
    | cons a r => exact ⟨a, r, rfl, Nat.succ.inj hl, h⟩
theorem ds_parG {is : List Nat} {kt k2 : Nat} {pt pt2 : Pos} (hc : X.calm = true) (h : DP X dk W es k) (hg : PGs X ts (gNames is)) (hn : (assignEach ts X.env).length = is.length := by rfl) (hst : (assignEach ts X.env).findIdx? (·.1) = none := by rfl)
    (hz : is.length ≤ sizeLine := by decide)
    (hs : swapsWithSole [.Tuple ts kt pt] (.Tuple es k2 pt2) pos.line X.env = pure false := by rfl) (hw : swappedStores [.Tuple ts kt pt] (.Tuple es k2 pt2) X.env = pure none := by rfl)
    (h1 : (assignEach [.Tuple ts kt pt] X.env).map (·.2) = [assign (.Tuple ts kt pt) X.env] := by rfl) : DS X dk W (.Assign [.Tuple ts kt pt] (.Tuple es k2 pt2) pos) (dPar is k) :=
  ⟨PS.imp (ps_asg (pe_tup h.pa) (pg_tup hc hg hn hst) hs hw h1) fun D σ H ⟨B, ρ, r, q⟩ => ⟨B, ρ, r, h.mono _ _ _ _ _ (fun ss ρ1 z xs F B1 H1 l s it => by
    have hl := it.length
    have hx : xs.length = is.length := by rw [hl, z.1]
    refine ⟨by rw [hx]; exact hz, fun p hp => ⟨p, xs, rfl, .inl (.inl upd_same), hx, hx, ?_⟩⟩
    obtain ⟨l', s'⟩ := l.grow (Grow.upd (o := .tup xs) hp)
    obtain ⟨l2, s2⟩ := Rel.items (is := is) l' (it.step s' l.UB) (s.trans s')
    exact z.2 _ B1 _ l2 s2) (fun _ _ _ z => exS.toE z) q⟩, monoPar h.mono⟩
end

/-! ### a list of one's own is changed -/
section
variable {K : PySem.W.Frag} {dk : Dk} {B : Addr → Prop} {H : Hp} {σ : L2.St} {ρ : Env}
theorem Rel.own (r : Rel K dk B H σ ρ) {i : Nat} {xs : List PyData} (h : ρ[i]? = some (.own xs)) : ∃ a vs, σ[i]? = some (some (.ref a)) ∧ H a = some (.lst vs) ∧ vs.length ≤ sizeLine ∧ RepPs K B H vs xs ∧ OwnAt σ ρ i a := by
  obtain ⟨a, vs, e1, e2, l, q⟩ := r.slot i _ h
  exact ⟨a, vs, e1, e2, l, q, _, h, rfl, e1⟩
theorem Rel.write (r : Rel K dk B H σ ρ) {i : Nat} {s s' : Slot} {a : Addr} {o : HO} (h : ρ[i]? = some s) (hs : s.isOwn = true) (ha : σ[i]? = some (some (.ref a))) (hs' : s'.isOwn = true) (hn : SlotR K dk B (upd H a o) (some (some (.ref a))) s') :
    Rel K dk B (upd H a o) σ (ρ.set i s') ∧ Step (UU dk σ ρ) B H (UU dk σ (ρ.set i s')) B (upd H a o) := by
  have ow : OwnAt σ ρ i a := ⟨s, h, hs, ha⟩
  obtain ⟨ba, nd⟩ := r.ownB i a ow
  have hi : i < ρ.length := (List.getElem?_eq_some_iff.mp h).1
  have ownS : ∀ {j b}, OwnAt σ (ρ.set i s') j b → OwnAt σ ρ j b := fun {j b} ⟨s2, e, o2, q⟩ => by
    rcases get_set e with ⟨rfl, rfl, _⟩ | ⟨n, e'⟩
    · exact ⟨s, h, hs, q⟩
    · exact ⟨s2, e', o2, q⟩
  have tr : ∀ b, H b ≠ none → upd H a o b ≠ none := fun b hb => by
    by_cases e : b = a
    · rw [e, upd_same]; simp
    · rw [upd_ne e]; exact hb
  have st : Step (UU dk σ ρ) B H (UU dk σ (ρ.set i s')) B (upd H a o) := ⟨fun b u hb n _ => by rw [upd_ne (show b ≠ a from fun z => n (.inr ⟨i, by rw [z]; exact ow⟩))]; exact hb, tr, fun _ h _ _ => h, fun _ h => .inl h, fun b hb => by
    rcases hb with hb | ⟨j, hb⟩
    · exact .inl (.inl hb)
    · exact .inl (.inr ⟨j, ownS hb⟩)⟩
  refine ⟨⟨by rw [List.length_set]; exact r.len, fun j s2 e => ?_, fun j k b h1 h2 => r.sep j k b (ownS h1) (ownS h2), fun j b h => r.ownB j b (ownS h), fun on => ?_, r.deckB, fun b hb => tr b (r.trk b hb)⟩, st⟩
  · rcases get_set e with ⟨rfl, rfl, _⟩ | ⟨n, e'⟩
    · rw [ha]
      exact hn
    · refine (r.slot j s2 e').step st r.UB fun b h1 h2 u hu => ?_
      have : b ≠ a := fun z => n (r.sep i j a ow ⟨s2, e', h1, z ▸ h2⟩)
      rw [upd_ne this]
      exact hu
  · obtain ⟨n, l, m, k, h1, h2, h3⟩ := r.deck on
    exact ⟨n, l, m, k, by rw [upd_ne (show dk.ad ≠ a from fun z => nd ⟨on, .inl z.symm⟩)]; exact h1, by rw [upd_ne (show dk.al ≠ a from fun z => nd ⟨on, .inr z.symm⟩)]; exact h2, h3⟩
/-- what is not written stays as it stands -/
theorem RepPs.atWrite (r : Rel K dk B H σ ρ) {i : Nat} {a : Addr} {o : HO} (ow : OwnAt σ ρ i a) {vs : List V} {xs : List PyData} (q : RepPs K B H vs xs) : RepPs K B (upd H a o) vs xs :=
  RepPs.step (U := UU dk σ ρ) (U' := UU dk σ ρ) ⟨fun b u hb n _ => by rw [upd_ne (show b ≠ a from fun z => n (.inr ⟨i, by rw [z]; exact ow⟩))]; exact hb, fun b hb => by
    by_cases e : b = a
    · rw [e, upd_same]; simp
    · rw [upd_ne e]; exact hb, fun _ h _ _ => h, fun _ h => .inl h, fun _ h => .inl h⟩ r.UB q
end
/-- x.append(e) -/
def dAppend (i : Nat) (t : DTE) : DTS := fun D ρ => match ρ[i]? with
  | some (.own _) => t ρ (fun v ρ1 => match ρ1[i]?, v with
    | some (.own xs), .d x => xs.length < sizeLine ∧ D.nx (ρ1.set i (.own (xs ++ [x])))
    | _, _ => False) D.ex
  | _ => False
/-- x.extend(e) -/
def dExtend (i : Nat) (t : DTE) : DTS := fun D ρ => match ρ[i]? with
  | some (.own _) => t ρ (fun v ρ1 => match ρ1[i]?, v with
    | some (.own xs), .d (.list ys) => xs.length + ys.length ≤ sizeLine ∧ D.nx (ρ1.set i (.own (xs ++ ys)))
    | _, _ => False) D.ex
  | _ => False
/-- x.pop(), x.pop(e) as values -/
def dPop (i : Nat) : DTE := fun ρ Q _ => match ρ[i]? with
  | some (.own xs) => match xs.getLast? with
    | some x => Q (.d x) (ρ.set i (.own xs.dropLast))
    | none => False
  | _ => False
def dPopAt (i : Nat) (t : DTE) : DTE := fun ρ Q E => match ρ[i]? with
  | some (.own _) => t ρ (fun v ρ1 => match ρ1[i]?, v with
    | some (.own xs), .d (.int k) => match xs[k.toNat]? with
      | some x => 0 ≤ k ∧ Q (.d x) (ρ1.set i (.own (xs.eraseIdx k.toNat)))
      | none => False
    | _, _ => False) E
  | _ => False
/-- len(x), x a list of one's own that stays so -/
def dLenOwn (i : Nat) : DTE := fun ρ Q _ => match ρ[i]? with
  | some (.own xs) => Q (.d (.int xs.length)) ρ
  | _ => False
section
variable {X : Cx} {dk : Dk} {W : WX} {e : Expr} {t : DTE} {pos pos2 apos px p : Pos} {x : Str}
theorem ds_append (i : Nat) (h : DE X dk W e t) (hN : X.N[i]? = some x := by rfl) (hv : Vis X.env.scope x := by first | exact Or.inl rfl | exact Or.inr (Or.inl rfl) | exact Or.inr (Or.inr rfl))
    (hd : (x == ("__debug__" : Str)) = false := by decide) (hcd : (x == ("__classdict__" : Str)) = false := by decide)
    (hbase : attributeBase (.Name x px) "append" X.env (eval (.Name x px) X.env) = eval (.Name x px) X.env := by rfl)
    (hfew : ((backTo pos (starEach [e] X.env)).all (fun x => !x.1) && (backToKw pos (keywordEach [] X.env)).all (fun x => x.1.isSome)
      && decide ([e].length + ([] : List Keyword).length + (if ([] : List Keyword).isEmpty then 0 else 1) < 30)) = true := by rfl)
    (hline : (apos.endLine == pos.line) = true := by rfl) (hs1 : starEach [e] X.env = (false, eval e X.env) :: starEach [] X.env := by rfl) (hplain : (backTo pos (starEach [] X.env)).any (·.1) = false := by rfl)
    (hs : swapsWith (.Call (.Attribute (.Name x px) "append" apos) [e] [] pos) none pos2.line X.env = pure false := by rfl) :
    DS X dk W (.Expr (.Call (.Attribute (.Name x px) "append" apos) [e] [] pos) pos2) (dAppend i t) := by
  refine ⟨PS.imp (ps_expr (pe_bm PySem.F.plainAttrs_list PySem.F.slot_list_append PySem.F.type_list_append mt_append (pe_var hN hv hd hcd) (pa_cons h.pe pa_nil hs1) hbase hfew hline hs1 hplain) hs) fun D σ H ⟨B, ρ, r, q⟩ => ?_, fun D D' ρ hD q => ?_⟩
  · unfold dAppend at q
    cases e0 : ρ[i]? with
    | none => rw [e0] at q; exact q.elim
    | some s0 =>
      rw [e0] at q
      cases s0 with
      | own xs0 =>
        obtain ⟨a, vs0, a1, a2, a3, a4, a5⟩ := r.own e0
        refine ⟨.ref a, a1, .inl ⟨rfl, vs0, .inl (.inl a2)⟩, bindE h.mono r q (fun _ _ _ z => exS.toE z) fun v ρ1 y B1 H1 z l s rv => ?_⟩
        cases e1 : ρ1[i]? with
        | none => rw [e1] at z; exact z.elim
        | some s1 =>
          rw [e1] at z
          cases s1 with
          | own xs =>
            cases v with
            | deck => exact z.elim
            | d d =>
              obtain ⟨a', vs, b1, b2, b3, b4, b5⟩ := l.own e1
              rw [a1] at b1
              cases b1
              refine ⟨a, vs, y, rfl, rfl, b2, by rw [b4.length]; exact z.1, ?_⟩
              have rp := (RepPs.atWrite l b5 (o := .lst (vs ++ [y])) (b4.append (.cons rv .nil)))
              obtain ⟨l', s'⟩ := l.write (s' := .own (xs ++ [d])) (o := .lst (vs ++ [y])) e1 rfl a1 rfl ⟨a, _, rfl, upd_same, by rw [List.length_append, b4.length]; exact z.1, rp⟩
              exact z.2 σ B1 _ l' (s.trans s')
          | _ => cases v <;> exact z.elim
      | _ => exact q.elim
  · unfold dAppend at q ⊢
    cases e0 : ρ[i]? with
    | none => rw [e0] at q; exact q
    | some s0 =>
      rw [e0] at q
      cases s0 with
      | own xs0 =>
        refine h.mono _ _ _ _ _ (fun v ρ1 z => ?_) hD.ex q
        cases e1 : ρ1[i]? with
        | none => rw [e1] at z; exact z
        | some s1 =>
          rw [e1] at z
          cases s1 with
          | own xs =>
            cases v with
            | deck => exact z
            | d d => exact ⟨z.1, hD.nx _ z.2⟩
          | _ => cases v <;> exact z
      | _ => exact q
theorem ds_extend (i : Nat) (h : DE X dk W e t) (hN : X.N[i]? = some x := by rfl) (hv : Vis X.env.scope x := by first | exact Or.inl rfl | exact Or.inr (Or.inl rfl) | exact Or.inr (Or.inr rfl))
    (hd : (x == ("__debug__" : Str)) = false := by decide) (hcd : (x == ("__classdict__" : Str)) = false := by decide)
    (hbase : attributeBase (.Name x px) "extend" X.env (eval (.Name x px) X.env) = eval (.Name x px) X.env := by rfl)
    (hfew : ((backTo pos (starEach [e] X.env)).all (fun x => !x.1) && (backToKw pos (keywordEach [] X.env)).all (fun x => x.1.isSome)
      && decide ([e].length + ([] : List Keyword).length + (if ([] : List Keyword).isEmpty then 0 else 1) < 30)) = true := by rfl)
    (hline : (apos.endLine == pos.line) = true := by rfl) (hs1 : starEach [e] X.env = (false, eval e X.env) :: starEach [] X.env := by rfl) (hplain : (backTo pos (starEach [] X.env)).any (·.1) = false := by rfl)
    (hs : swapsWith (.Call (.Attribute (.Name x px) "extend" apos) [e] [] pos) none pos2.line X.env = pure false := by rfl) :
    DS X dk W (.Expr (.Call (.Attribute (.Name x px) "extend" apos) [e] [] pos) pos2) (dExtend i t) := by
  refine ⟨PS.imp (ps_expr (pe_bm PySem.F.plainAttrs_list PySem.F.slot_list_extend PySem.F.type_list_extend mt_extend (pe_var hN hv hd hcd) (pa_cons h.pe pa_nil hs1) hbase hfew hline hs1 hplain) hs) fun D σ H ⟨B, ρ, r, q⟩ => ?_, fun D D' ρ hD q => ?_⟩
  · unfold dExtend at q
    cases e0 : ρ[i]? with
    | none => rw [e0] at q; exact q.elim
    | some s0 =>
      rw [e0] at q
      cases s0 with
      | own xs0 =>
        obtain ⟨a, vs0, a1, a2, a3, a4, a5⟩ := r.own e0
        refine ⟨.ref a, a1, .inl ⟨rfl, vs0, .inl (.inl a2)⟩, bindE h.mono r q (fun _ _ _ z => exS.toE z) fun v ρ1 y B1 H1 z l s rv => ?_⟩
        cases e1 : ρ1[i]? with
        | none => rw [e1] at z; exact z.elim
        | some s1 =>
          rw [e1] at z
          cases s1 with
          | own xs =>
            cases v with
            | deck => exact z.elim
            | d d =>
              cases d with
              | list ys =>
                obtain ⟨a', vs, b1, b2, b3, b4, b5⟩ := l.own e1
                rw [a1] at b1
                cases b1
                obtain ⟨q1, ws, rfl, c2, _, c4, c5⟩ := repLst rv
                have hz : vs.length + ws.length ≤ sizeLine := by rw [b4.length, c4.length]; exact z.1
                refine ⟨a, q1, vs, ws, rfl, rfl, b2, c2, hz, ?_⟩
                have rp := (RepPs.atWrite l b5 (o := .lst (vs ++ ws)) (b4.append c4))
                obtain ⟨l', s'⟩ := l.write (s' := .own (xs ++ ys)) (o := .lst (vs ++ ws)) e1 rfl a1 rfl ⟨a, _, rfl, upd_same, by rw [List.length_append]; exact hz, rp⟩
                exact z.2 σ B1 _ l' (s.trans s')
              | _ => exact z.elim
          | _ => cases v <;> exact z.elim
      | _ => exact q.elim
  · unfold dExtend at q ⊢
    cases e0 : ρ[i]? with
    | none => rw [e0] at q; exact q
    | some s0 =>
      rw [e0] at q
      cases s0 with
      | own xs0 =>
        refine h.mono _ _ _ _ _ (fun v ρ1 z => ?_) hD.ex q
        cases e1 : ρ1[i]? with
        | none => rw [e1] at z; exact z
        | some s1 =>
          rw [e1] at z
          cases s1 with
          | own xs =>
            cases v with
            | deck => exact z
            | d d => cases d <;> first | exact ⟨z.1, hD.nx _ z.2⟩ | exact z
          | _ => cases v <;> exact z
      | _ => exact q
theorem de_popAt (i : Nat) (h : DE X dk W e t) (hN : X.N[i]? = some x := by rfl) (hv : Vis X.env.scope x := by first | exact Or.inl rfl | exact Or.inr (Or.inl rfl) | exact Or.inr (Or.inr rfl))
    (hd : (x == ("__debug__" : Str)) = false := by decide) (hcd : (x == ("__classdict__" : Str)) = false := by decide)
    (hbase : attributeBase (.Name x px) "pop" X.env (eval (.Name x px) X.env) = eval (.Name x px) X.env := by rfl)
    (hfew : ((backTo pos (starEach [e] X.env)).all (fun x => !x.1) && (backToKw pos (keywordEach [] X.env)).all (fun x => x.1.isSome)
      && decide ([e].length + ([] : List Keyword).length + (if ([] : List Keyword).isEmpty then 0 else 1) < 30)) = true := by rfl)
    (hline : (apos.endLine == pos.line) = true := by rfl) (hs1 : starEach [e] X.env = (false, eval e X.env) :: starEach [] X.env := by rfl) (hplain : (backTo pos (starEach [] X.env)).any (·.1) = false := by rfl) :
    DE X dk W (.Call (.Attribute (.Name x px) "pop" apos) [e] [] pos) (dPopAt i t) := by
  refine ⟨PE.imp (pe_bm PySem.F.plainAttrs_list PySem.F.slot_list_pop PySem.F.type_list_pop mt_popAt (pe_var hN hv hd hcd) (pa_cons h.pe pa_nil hs1) hbase hfew hline hs1 hplain) fun σ H Q ⟨B, ρ, r, q⟩ => ?_, fun ρ Q Q' E E' hQ hE q => ?_⟩
  · unfold dPopAt at q
    cases e0 : ρ[i]? with
    | none => rw [e0] at q; exact q.elim
    | some s0 =>
      rw [e0] at q
      cases s0 with
      | own xs0 =>
        obtain ⟨a, vs0, a1, a2, a3, a4, a5⟩ := r.own e0
        refine ⟨.ref a, a1, .inl ⟨rfl, vs0, .inl (.inl a2)⟩, bindE h.mono r q (fun _ _ _ z => z) fun v ρ1 y B1 H1 z l s rv => ?_⟩
        cases e1 : ρ1[i]? with
        | none => rw [e1] at z; exact z.elim
        | some s1 =>
          rw [e1] at z
          cases s1 with
          | own xs =>
            cases v with
            | deck => exact z.elim
            | d d =>
              cases d with
              | int k =>
                have z : match xs[k.toNat]? with
                  | some x => 0 ≤ k ∧ okE X.K dk Q B H σ ρ (.d x) (ρ1.set i (.own (xs.eraseIdx k.toNat)))
                  | none => False := z
                cases e2 : xs[k.toNat]? with
                | none => rw [e2] at z; exact z.elim
                | some d =>
                  rw [e2] at z
                  obtain ⟨a', vs, b1, b2, b3, b4, b5⟩ := l.own e1
                  rw [a1] at b1
                  cases b1
                  obtain ⟨u, hu, ru⟩ := b4.get _ e2
                  have hk : k.toNat < vs.length := (List.getElem?_eq_some_iff.mp hu).1
                  have ee : RepPs X.K B1 H1 (vs.eraseIdx k.toNat) (xs.eraseIdx k.toNat) := by
                    rw [List.eraseIdx_eq_take_drop_succ, List.eraseIdx_eq_take_drop_succ]
                    exact (b4.take _).append (b4.drop _)
                  have h0 := z.1
                  have hk2 : k.toNat < 16777216 := by
                    have : (sizeLine : Nat) = 16777216 := by rw [sizeLine_eq]
                    omega
                  refine ⟨a, vs, k, k.toNat, u, rfl, by rw [repInt rv], b2, by omega, by omega, ?_, hu, ?_⟩
                  · have hix : ixN vs.length k = some k.toNat := by
                      unfold ixN
                      rw [if_pos h0, if_pos (by omega)]
                    exact (ixN_seq hix).1
                  · have rp := (RepPs.atWrite l b5 (o := .lst (vs.eraseIdx k.toNat)) ee)
                    have rx : RepPs X.K B1 (upd H1 a (.lst (vs.eraseIdx k.toNat))) [u] [d] := (RepPs.atWrite l b5 (.cons ru .nil))
                    obtain ⟨l', s'⟩ := l.write (s' := .own (xs.eraseIdx k.toNat)) (o := .lst (vs.eraseIdx k.toNat)) e1 rfl a1 rfl ⟨a, _, rfl, upd_same, Nat.le_trans (List.length_eraseIdx_le ..) b3, rp⟩
                    cases rx with
                    | cons rx _ => exact z.2 u B1 _ l' (s.trans s') rx
              | _ => exact z.elim
          | _ => cases v <;> exact z.elim
      | _ => exact q.elim
  · unfold dPopAt at q ⊢
    cases e0 : ρ[i]? with
    | none => rw [e0] at q; exact q
    | some s0 =>
      rw [e0] at q
      cases s0 with
      | own xs0 =>
        refine h.mono _ _ _ _ _ (fun v ρ1 z => ?_) hE q
        cases e1 : ρ1[i]? with
        | none => rw [e1] at z; exact z
        | some s1 =>
          rw [e1] at z
          cases s1 with
          | own xs =>
            cases v with
            | deck => exact z
            | d d =>
              cases d with
              | int k =>
                have z : match xs[k.toNat]? with
                  | some x => 0 ≤ k ∧ Q (.d x) (ρ1.set i (.own (xs.eraseIdx k.toNat)))
                  | none => False := z
                show match xs[k.toNat]? with
                  | some x => 0 ≤ k ∧ Q' (.d x) (ρ1.set i (.own (xs.eraseIdx k.toNat)))
                  | none => False
                cases e2 : xs[k.toNat]? with
                | none => rw [e2] at z; exact z
                | some d => rw [e2] at z; exact ⟨z.1, hQ _ _ z.2⟩
              | _ => exact z
          | _ => cases v <;> exact z
      | _ => exact q
theorem de_lenOwn (i : Nat) (hg : Gl X "len") (hm : X.mg "len" = none) (hN : X.N[i]? = some x := by rfl) (hv : Vis X.env.scope x := by first | exact Or.inl rfl | exact Or.inr (Or.inl rfl) | exact Or.inr (Or.inr rfl))
    (hd : (x == ("__debug__" : Str)) = false := by decide) (hcd : (x == ("__classdict__" : Str)) = false := by decide)
    (he : starEach [.Name x px] X.env = (false, eval (.Name x px) X.env) :: starEach [] X.env := by rfl) (hpl : (backTo pos (starEach [] X.env)).any (·.1) = false := by rfl) : DE X dk W (.Call (.Name "len" p) [.Name x px] [] pos) (dLenOwn i) := by
  refine ⟨PE.imp (pe_callB call_len hg hm (by decide +kernel) (pa_cons (pe_var hN hv hd hcd) pa_nil he) (by decide) (by decide) he hpl) fun σ H Q ⟨B, ρ, r, q⟩ => ?_, fun ρ Q Q' E E' hQ hE q => ?_⟩
  · unfold dLenOwn at q
    cases e0 : ρ[i]? with
    | none => rw [e0] at q; exact q.elim
    | some s0 =>
      rw [e0] at q
      cases s0 with
      | own xs =>
        obtain ⟨a, vs, a1, a2, a3, a4, a5⟩ := r.own e0
        exact ⟨.ref a, a1, _, _, rfl, .inl ⟨vs, .inl (.inl a2), by rw [a4.length]⟩, q _ B H r Step.refl (.int _)⟩
      | _ => exact q.elim
  · unfold dLenOwn at q ⊢
    cases e0 : ρ[i]? with
    | none => rw [e0] at q; exact q
    | some s0 =>
      rw [e0] at q
      cases s0 with
      | own xs => exact hQ _ _ q
      | _ => exact q
/-- e in x, e not in x, x a list of one's own that stays so; e flat -/
def dInOwn (neg : Bool) (i : Nat) (t : DTE) : DTE := fun ρ Q E => t ρ (fun v ρ1 => match ρ1[i]?, v with
  | some (.own xs), .d x => flatP x = true ∧ xs.all flatP = true ∧ Q (.d (.bool (if neg = true then !inSeq x xs else inSeq x xs))) ρ1
  | _, _ => False) E
theorem inOwn_core {neg : Bool} (i : Nat) (h : DE X dk W e t) {σ : L2.St} {H : Hp} {Q : VK} (q : tDE X.K X.mg dk W (dInOwn neg i t) σ H Q) : tOp (rIn X.K neg) (tDE X.K X.mg dk W t) (tVar i) σ H Q := by
  obtain ⟨B, ρ, r, q⟩ := q
  exact bindE h.mono r q (fun _ _ _ z => z) fun v ρ1 y B1 H1 z l s rv => by
    cases e1 : ρ1[i]? with
    | none => rw [e1] at z; exact z.elim
    | some s1 =>
      rw [e1] at z
      cases s1 with
      | own xs =>
        cases v with
        | deck => exact z.elim
        | d d =>
          obtain ⟨a, vs, b1, b2, b3, b4, b5⟩ := l.own e1
          refine ⟨.ref a, b1, a, vs, rfl, .inl (.inl (.inl b2)), flat_rep rv z.1, flat_reps b4 z.2.1, ?_⟩
          rw [inV_rep rv z.1 b4 z.2.1]
          exact z.2.2 _ B1 H1 l s (.bool _)
      | _ => cases v <;> exact z.elim
theorem monoInOwn {neg : Bool} {i : Nat} (m : MonoE t) : MonoE (dInOwn neg i t) := fun ρ Q Q' E E' hQ hE q => m _ _ _ _ _ (fun v ρ1 z => by
    cases e1 : ρ1[i]? with
    | none => rw [e1] at z; exact z
    | some s1 =>
      rw [e1] at z
      cases s1 with
      | own xs =>
        cases v with
        | deck => exact z
        | d d => exact ⟨z.1, z.2.1, hQ _ _ z.2.2⟩
      | _ => cases v <;> exact z) hE q
theorem dt_notInOwn (i : Nat) (h : DE X dk W e t) (hN : X.N[i]? = some x := by rfl) (hv : Vis X.env.scope x := by first | exact Or.inl rfl | exact Or.inr (Or.inl rfl) | exact Or.inr (Or.inr rfl))
    (hd : (x == ("__debug__" : Str)) = false := by decide) (hcd : (x == ("__classdict__" : Str)) = false := by decide) (hm : behindInMarks .NotIn (.Name x px) = false := by rfl) : DT X dk W (.Compare e [.NotIn] [.Name x px] pos) (dTest (dInOwn true i t)) :=
  ⟨PT.imp (pt_cmpR op_notIn_seq h.pe (pe_var hN hv hd hcd) hm) fun σ H Q q => inOwn_core i h (test_core (monoInOwn h.mono) q), monoTest (monoInOwn h.mono)⟩
theorem dt_inOwn (i : Nat) (h : DE X dk W e t) (hN : X.N[i]? = some x := by rfl) (hv : Vis X.env.scope x := by first | exact Or.inl rfl | exact Or.inr (Or.inl rfl) | exact Or.inr (Or.inr rfl))
    (hd : (x == ("__debug__" : Str)) = false := by decide) (hcd : (x == ("__classdict__" : Str)) = false := by decide) (hm : behindInMarks .In (.Name x px) = false := by rfl) : DT X dk W (.Compare e [.In] [.Name x px] pos) (dTest (dInOwn false i t)) :=
  ⟨PT.imp (pt_cmpR op_in_seq h.pe (pe_var hN hv hd hcd) hm) fun σ H Q q => inOwn_core i h (test_core (monoInOwn h.mono) q), monoTest (monoInOwn h.mono)⟩

/-! ### n += e -/
def dAug (f : Int → Int → Int) (i : Nat) (t : DTE) : DTS := fun D ρ => match ρ[i]? with
  | some (.val (.d (.int a))) => t ρ (fun v ρ1 => match v with
    | .d (.int b) => D.nx (ρ1.set i (.val (.d (.int (f a b)))))
    | _ => False) D.ex
  | _ => False
theorem ds_aug {op : Operator} {f : Int → Int → Int} (i : Nat) (hN : X.N.Nodup) (ho : PIp X op (ipI f)) (h : DE X dk W e t) (hi : X.N[i]? = some x := by rfl) (hx : Loc X.env.scope x := by first | exact Or.inl rfl | exact Or.inr rfl) (hf : X.fn x = true ∨ X.env.scope.names.lookup x = some .local := by first | exact .inl rfl | exact .inr rfl | assumption) :
    DS X dk W (.AugAssign (.Name x px) op e pos) (dAug f i t) := by
  refine ⟨PS.imp (ps_aug hN hi hx h.pe ho hf) fun D σ H ⟨B, ρ, r, q⟩ => ?_, fun D D' ρ hD q => ?_⟩
  · unfold dAug at q
    cases e0 : ρ[i]? with
    | none => rw [e0] at q; exact q.elim
    | some s0 =>
      rw [e0] at q
      cases s0 with
      | val v0 =>
        cases v0 with
        | deck => exact q.elim
        | d d0 =>
          cases d0 with
          | int a =>
            obtain ⟨y0, a1, a2⟩ := r.slot i _ e0
            refine ⟨y0, a1, bindE h.mono r q (fun _ _ _ z => exS.toE z) fun v ρ1 y B1 H1 z l s rv => ?_⟩
            cases v with
            | deck => exact z.elim
            | d d =>
              cases d with
              | int b =>
                refine ⟨a, b, repInt a2, repInt rv, ?_⟩
                obtain ⟨l', s'⟩ := l.set i (x := .int (f a b)) (v := .d (.int (f a b))) (.int _)
                exact z _ B1 H1 l' (s.trans s')
              | _ => exact z.elim
          | _ => exact q.elim
      | _ => exact q.elim
  · unfold dAug at q ⊢
    cases e0 : ρ[i]? with
    | none => rw [e0] at q; exact q
    | some s0 =>
      rw [e0] at q
      cases s0 with
      | val v0 =>
        cases v0 with
        | deck => exact q
        | d d0 =>
          cases d0 with
          | int a =>
            refine h.mono _ _ _ _ _ (fun v ρ1 z => ?_) hD.ex q
            cases v with
            | deck => exact z
            | d d => cases d <;> first | exact hD.nx _ z | exact z
          | _ => exact q
      | _ => exact q
end
end DL
set_option maxHeartbeats 4000000
/-! D10: list comprehensions; isinstance; list(range(..)). -/
namespace DL
open PySem PySem.Spec
open PyProof.Rows hiding St
open L2

def hide : Slot → Slot
  | .own _ => .un
  | .ownD _ => .un
  | s => s
def wipeS (ρ : Env) : List Nat → Env
  | [] => ρ
  | v :: vs => (wipeS ρ vs).set v .un
/-- the slots as a comprehension's block sees them -/
def hideE (vs : List Nat) (ρ : Env) : Env := wipeS (ρ.map hide) vs
def noX : XQ := fun _ _ _ => False
def compL (turn : PyData → (Option PyData → Prop) → Prop) : List PyData → List PyData → (List PyData → Prop) → Prop
  | [], acc, Q => Q acc
  | x :: xs, acc, Q => turn x fun o => compL turn xs (match o with
    | some y => acc ++ [y]
    | none => acc) Q
def dTurn (g : DTG) (tt : DTT) (te : DTE) (ρh : Env) : PyData → (Option PyData → Prop) → Prop := fun x k =>
  g (.d x) ρh fun ρ1 => tt ρ1 (fun b ρ2 => if b = true then te ρ2 (fun v _ => match v with
    | .d y => k (some y)
    | _ => False) noX else k none) noX
def dFComp (s : DTI) (g : DTG) (tt : DTT) (te : DTE) (vs : List Nat) : DLE := fun ρ Q E => s ρ (fun xs ρ1 => compL (dTurn g tt te (hideE vs ρ1)) xs [] fun ys => Q ys ρ1) E
def dYes : DTT := fun ρ Q _ => Q true ρ
structure DTs (X : Cx) (dk : Dk) (W : WX) (ifs : List Expr) (t : DTT) : Prop where
  pt : PTs X ifs (tDT X.K X.mg dk W t)
  mono : MonoT t
theorem PTs.imp {X : Cx} {e : List Expr} {t t' : TT} (h : PTs X e t) (i : ∀ σ H Q, t' σ H Q → t σ H Q) : PTs X e t' := ⟨fun pins s σ H Q I q => h.run pins s σ H Q I (i _ _ _ q)⟩
/-- nothing is wished of an exception -/
abbrev WF : WX := fun _ _ _ _ => False

section
variable {K : PySem.W.Frag} {dk : Dk} {B : Addr → Prop} {H : Hp} {σ : L2.St} {ρ : Env}
theorem wipeS_get : ∀ {vs : List Nat} {ρ : Env} {i : Nat} {s : Slot}, (wipeS ρ vs)[i]? = some s → s = .un ∨ (i ∉ vs ∧ ρ[i]? = some s)
  | [], ρ, i, s, h => .inr ⟨by simp, h⟩
  | v :: vs, ρ, i, s, h => by
    unfold wipeS at h
    rcases get_set h with ⟨rfl, rfl, _⟩ | ⟨n, h⟩
    · exact .inl rfl
    · rcases wipeS_get h with e | ⟨m, e⟩
      · exact .inl e
      · exact .inr ⟨by rw [List.mem_cons, not_or]; exact ⟨fun z => n z.symm, m⟩, e⟩
theorem wipeS_len : ∀ {vs : List Nat} {ρ : Env}, (wipeS ρ vs).length = ρ.length
  | [], ρ => rfl
  | v :: vs, ρ => by unfold wipeS; rw [List.length_set, wipeS_len]
theorem wipe_out' {vs : List Nat} {σ : L2.St} {i : Nat} (h : i ∉ vs) : (wipe σ vs)[i]? = σ[i]? := wipe_out h
theorem Rel.hide (r : Rel K dk B H σ ρ) (vs : List Nat) : Rel K dk B H (wipe σ vs) (hideE vs ρ) ∧ ∀ a, UU dk (wipe σ vs) (hideE vs ρ) a → dkU dk a := by
  have no : ∀ i a, ¬ OwnAt (wipe σ vs) (hideE vs ρ) i a := fun i a ⟨s, e, o, _⟩ => by
    rcases wipeS_get e with rfl | ⟨_, e⟩
    · cases o
    · rw [List.getElem?_map] at e
      cases e2 : ρ[i]? with
      | none => rw [e2] at e; cases e
      | some s' =>
        rw [e2] at e
        cases e
        cases s' <;> cases o
  refine ⟨⟨by rw [wipe_length]; unfold hideE; rw [wipeS_len, List.length_map]; exact r.len, fun i s e => ?_, fun i j a h => absurd h (no i a), fun i a h => absurd h (no i a), r.deck, r.deckB, r.trk⟩, fun a h => ?_⟩
  · rcases wipeS_get e with rfl | ⟨n, e⟩
    · trivial
    · rw [wipe_out n]
      rw [List.getElem?_map] at e
      cases e2 : ρ[i]? with
      | none => rw [e2] at e; cases e
      | some s' =>
        rw [e2] at e
        cases e
        have q := r.slot i s' e2
        cases s' <;> first | exact q | trivial
  · rcases h with h | ⟨i, h⟩
    · exact h
    · exact absurd h (no i a)
end
theorem wipe_get {i : Nat} : ∀ {vs : List Nat} {σ : L2.St}, i ∈ vs → i < σ.length → (wipe σ vs)[i]? = some none
  | v :: vs, σ, h, hl => by
    unfold wipe
    by_cases e : v = i
    · subst e
      rw [List.getElem?_set_self (by rw [wipe_length]; exact hl)]
    · rw [List.getElem?_set_ne e]
      rcases List.mem_cons.mp h with rfl | h
      · exact absurd rfl e
      · exact wipe_get h hl
theorem wipe_wipe (σ : L2.St) (vs : List Nat) : wipe (wipe σ vs) vs = wipe σ vs := by
  apply List.ext_getElem?
  intro i
  by_cases h : i ∈ vs
  · by_cases hl : i < σ.length
    · rw [wipe_get h (by rw [wipe_length]; exact hl), wipe_get h hl]
    · rw [List.getElem?_eq_none (by rw [wipe_length, wipe_length]; omega), List.getElem?_eq_none (by rw [wipe_length]; omega)]
  · rw [wipe_out h]
section
variable {K : PySem.W.Frag} {dk : Dk} {B B' U U' : Addr → Prop} {H H' : Hp} {σ : L2.St} {ρ : Env}
/-- something that writes the deck at most has run -/
theorem Rel.under (r : Rel K dk B H σ ρ) (sb : Step U B H U' B' H') (hU : ∀ a, U a → dkU dk a) (d' : DeckAt dk H') (b' : ∀ a, dkU dk a → B' a) (t' : ∀ a, B' a → H' a ≠ none) : Rel K dk B' H' σ ρ ∧ Step (UU dk σ ρ) B H (UU dk σ ρ) B' H' := by
  have hB : ∀ a, U a → B a := fun a h => r.deckB a (hU a h)
  refine ⟨⟨r.len, fun i s e => (r.slot i s e).step sb hB fun a hs he u hu => ?_, r.sep, fun i a h => ⟨sb.stay a (r.ownB i a h).1 (fun z => (r.ownB i a h).2 (hU a z)) (r.trk a (r.ownB i a h).1), (r.ownB i a h).2⟩, d', b', t'⟩,
    ⟨fun a o h n t => sb.keep a o h (fun z => n (.inl (hU a z))) t, sb.trk, fun a h n t => sb.stay a h (fun z => n (.inl (hU a z))) t, sb.bnew, fun a h => .inl h⟩⟩
  refine sb.keep a u hu (fun z => (r.ownB i a ⟨s, e, hs, he⟩).2 (hU a z)) fun ps z => ?_
  subst z
  have q := r.slot i s e
  cases s with
  | un => cases hs
  | val v => cases hs
  | own xs =>
    obtain ⟨a', vs, e', h, _⟩ := q
    rw [he] at e'; cases e'; rw [hu] at h; cases h
  | ownD xs =>
    obtain ⟨a', vs, e', h, _⟩ := q
    rw [he] at e'; cases e'; rw [hu] at h; cases h
/-- what belongs to nobody is written -/
theorem Rel.poke (r : Rel K dk B H σ ρ) {D : Addr} {o : HO} (bD : B D) (nu : ¬ UU dk σ ρ D) : Rel K dk B (upd H D o) σ ρ ∧ ∀ {vs : List V} {xs : List PyData}, RepPs K B H vs xs → RepPs K B (upd H D o) vs xs := by
  have tr : ∀ b, H b ≠ none → upd H D o b ≠ none := fun b hb => by
    by_cases e : b = D
    · rw [e, upd_same]; simp
    · rw [upd_ne e]; exact hb
  have st : Step (fun a => a = D) B H (fun a => a = D) B (upd H D o) := ⟨fun a u h n _ => by rw [upd_ne n]; exact h, tr, fun _ h _ _ => h, fun _ h => .inl h, fun _ h => .inl h⟩
  have hB : ∀ a, a = D → B a := fun a h => h ▸ bD
  refine ⟨⟨r.len, fun i s e => (r.slot i s e).step st hB fun a h1 h2 u hu => ?_, r.sep, r.ownB, fun on => ?_, r.deckB, fun b hb => tr b (r.trk b hb)⟩, fun {vs xs} q => RepPs.step st hB q⟩
  · rw [upd_ne (show a ≠ D from fun z => nu (.inr ⟨i, s, e, h1, by rw [← z]; exact h2⟩))]
    exact hu
  · obtain ⟨n, l, m, k, h1, h2, h3⟩ := r.deck on
    exact ⟨n, l, m, k, by rw [upd_ne (show dk.ad ≠ D from fun z => nu (.inl ⟨on, .inl z.symm⟩))]; exact h1, by rw [upd_ne (show dk.al ≠ D from fun z => nu (.inl ⟨on, .inr z.symm⟩))]; exact h2, h3⟩
end
theorem comp_mono {turn turn' : PyData → (Option PyData → Prop) → Prop} (h : ∀ x (k k' : Option PyData → Prop), (∀ o, k o → k' o) → turn x k → turn' x k') {Q Q' : List PyData → Prop} (hQ : ∀ ys, Q ys → Q' ys) : ∀ (xs acc : List PyData), compL turn xs acc Q → compL turn' xs acc Q'
  | [], acc, q => hQ _ q
  | x :: xs, acc, q => h x _ _ (fun o z => comp_mono h hQ xs _ z) q
section
variable {g : DTG} {tt : DTT} {te : DTE} {s : DTI} {vs : List Nat}
theorem turn_mono (mg : MonoG g) (mt : MonoT tt) (me : MonoE te) (ρ : Env) : ∀ x (k k' : Option PyData → Prop), (∀ o, k o → k' o) → dTurn g tt te ρ x k → dTurn g tt te ρ x k' := fun x k k' h q =>
  mg _ _ _ _ (fun ρ1 z => mt _ _ _ _ _ (fun b ρ2 z => by
    cases b with
    | true => exact me _ _ _ _ _ (fun v ρ3 z => by
        cases v with
        | deck => exact z
        | d y => exact h _ z) (fun _ _ _ z => z) z
    | false => exact h _ z) (fun _ _ _ z => z) z) q
theorem monoComp (ms : MonoI s) (mg : MonoG g) (mt : MonoT tt) (me : MonoE te) : MonoI (dFComp s g tt te vs) := fun ρ Q Q' E E' hQ hE q =>
  ms _ _ _ _ _ (fun xs ρ1 z => comp_mono (turn_mono mg mt me _) (fun ys z => hQ _ _ z) xs [] z) hE q
end
section
variable {X : Cx} {dk : Dk} {W : WX} {elt tg iter : Expr} {ifs : List Expr} {scope : Scope} {own : List (Str × Nat)} {pos : Pos} {s : DTI} {g : DTG} {tt : DTT} {te : DTE}
theorem dts_nil : DTs X dk W [] dYes := ⟨PTs.imp pts_nil fun σ H Q ⟨B, ρ, r, q⟩ => q B H r Step.refl, fun ρ Q Q' E E' hQ _ h => hQ _ _ h⟩
theorem dts_one {c : Expr} {t : DTT} (h : DT X dk W c t) : DTs X dk W [c] t := ⟨pts_one h.pt, h.mono⟩
theorem comp_core {σ : L2.St} {H : Hp} {Q : VK} (ms : MonoI s) (mgg : MonoG g) (mt : MonoT tt) (me : MonoE te) (vs : List Nat) (q : tDF X.K X.mg dk W (dFComp s g tt te vs) σ H Q) :
    tLc (tDI X.K X.mg dk W s) (tDG X.K dk vs g) (tDT X.K X.mg dk WF tt) (tDE X.K X.mg dk WF te) vs σ H Q := by
  obtain ⟨B, ρ, r, q⟩ := q
  refine bindI ms r q (fun _ _ _ z => z) fun xs ρ1 B1 H1 J z l st io hlen D hD => ?_
  obtain ⟨l0, s0, nu, _⟩ := l.fresh (vs := []) (xs := []) hD .nil
  have hD0 : H D = none := by
    by_cases e : H D = none
    · exact e
    · exact absurd hD (st.trk D e)
  refine ⟨fun i m H2 => i + m = xs.length ∧ ∃ (B2 : Addr → Prop) (vs2 : List V) (ys : List PyData), Rel X.K dk B2 H2 σ ρ1 ∧ Step (UU dk σ ρ1) B1 H1 (UU dk σ ρ1) B2 H2 ∧ H2 D = some (.lst vs2) ∧ B2 D ∧ vs2.length ≤ i ∧ RepPs X.K B2 H2 vs2 ys ∧
      compL (dTurn g tt te (hideE vs ρ1)) (xs.drop i) ys (fun ys => okF X.K dk Q B H σ ρ ys ρ1), ⟨xs.length, Nat.zero_add _, _, [], [], l0, s0, upd_same, .inr rfl, Nat.le_refl _, .nil, z⟩, ?_⟩
  rintro i m H2 ⟨him, B2, vs2, ys, l2, s2, hD2, bD, hv, ry, q2⟩
  obtain ⟨io1, io2⟩ := io _ _ _ s2 l2.trk i
  by_cases hi' : xs.length = i
  · refine .inl ⟨io2 hi', ?_⟩
    rw [List.drop_eq_nil_of_le (Nat.le_of_eq hi')] at q2
    exact q2 vs2 D B2 H2 l2 (st.trans s2) hD2 bD nu hD0 (by omega) ry
  · have hlt : i < xs.length := by omega
    obtain ⟨go, yl⟩ := io1 xs[i] (List.getElem?_eq_getElem hlt)
    rw [List.drop_eq_getElem_cons hlt] at q2
    refine .inr ⟨go, fun H3 => ∃ (zs : List PyData) (B3 : Addr → Prop) (vs3 : List V), Rel X.K dk B3 H3 σ ρ1 ∧ Step (UU dk σ ρ1) B1 H1 (UU dk σ ρ1) B3 H3 ∧ H3 D = some (.lst vs3) ∧ B3 D ∧ vs3.length ≤ i + 1 ∧ RepPs X.K B3 H3 vs3 zs ∧
      compL (dTurn g tt te (hideE vs ρ1)) (xs.drop (i + 1)) zs (fun ys => okF X.K dk Q B H σ ρ ys ρ1), fun H3 ⟨zs, B3, vs3, a1, a2, a3, a4, a5, a6, a7⟩ => ⟨m - 1, by omega, by omega, B3, vs3, zs, a1, a2, a3, a4, a5, a6, a7⟩, fun y H3 hy => ?_⟩
    obtain ⟨gr, rx⟩ := yl y H3 hy
    obtain ⟨l3, s3⟩ := l2.grow gr
    obtain ⟨lh, uh⟩ := l3.hide vs
    -- what the block does leaves the def's slots and the new list as they are
    have out : ∀ {U' B' : Addr → Prop} {H' : Hp} {σ' : L2.St} {ρ' : Env}, Step (UU dk (wipe σ vs) (hideE vs ρ1)) B2 H3 U' B' H' → Rel X.K dk B' H' σ' ρ' →
        Rel X.K dk B' H' σ ρ1 ∧ Step (UU dk σ ρ1) B1 H1 (UU dk σ ρ1) B' H' ∧ H' D = some (.lst vs2) ∧ B' D ∧ RepPs X.K B' H' vs2 ys := fun {U' B' H' σ' ρ'} sb l' => by
      have nD : ¬ UU dk (wipe σ vs) (hideE vs ρ1) D := fun z => nu (.inl (uh D z))
      obtain ⟨a1, a2⟩ := l3.under sb uh l'.deck l'.deckB l'.trk
      exact ⟨a1, (s2.trans s3).trans a2, sb.keep D _ (gr D _ hD2) nD (fun _ z => nomatch z), sb.stay D bD nD (by rw [gr D _ hD2]; simp), RepPs.step sb (fun a z => l3.deckB a (uh a z)) (RepPs.step s3 l2.UB ry)⟩
    refine ⟨B2, hideE vs ρ1, .d xs[i], lh, rx, mgg _ _ _ _ (fun ρ4 z4 σ4 B4 H4 w4 l4 s4 => ⟨by rw [w4, wipe_wipe], B4, ρ4, l4, mt _ _ _ _ _ (fun b ρ5 z5 B5 H5 l5 s5 => ?_) (fun _ _ _ z => z.elim) z4⟩) q2⟩
    cases b with
    | false =>
      obtain ⟨a1, a2, a3, a4, a5⟩ := out (s4.trans s5) l5
      exact ⟨ys, B5, vs2, a1, a2, a3, a4, by omega, a5, z5⟩
    | true =>
      refine ⟨B5, ρ5, l5, me _ _ _ _ _ (fun v ρ6 z6 w B6 H6 l6 s6 rv => ?_) (fun _ _ _ z => z.elim) z5⟩
      cases v with
      | deck => exact z6.elim
      | d d =>
        obtain ⟨a1, a2, a3, a4, a5⟩ := out ((s4.trans s5).trans s6) l6
        refine ⟨vs2, a3, by omega, ys ++ [d], B6, vs2 ++ [w], ?_⟩
        obtain ⟨p1, p2⟩ := a1.poke (o := .lst (vs2 ++ [w])) a4 nu
        refine ⟨p1, ⟨fun a o h n t => ?_, fun a h => ?_, a2.stay, a2.bnew, a2.unew⟩, upd_same, a4, by rw [List.length_append]; simp; omega, p2 (a5.append (.cons rv .nil)), z6⟩
        · rw [upd_ne (show a ≠ D from fun z => by rw [z, hD] at h; cases h)]
          exact a2.keep a o h n t
        · by_cases e : a = D
          · rw [e, upd_same]; simp
          · rw [upd_ne e]; exact a2.trk a h
theorem df_comp (hc : X.calm = true) (hN : X.N.Nodup) (hi : DI X dk W tg iter s) (ok : BlkOk X.N X.env.scope scope own)
    (hg : ∀ (s : Shared) (H : Hp) (C : Addr) (cl : List (Str × Addr)) (fp : List Addr), DG (X.blk s H scope (compEnvC scope cl C X.env) fp) dk (own.map (·.2)) tg g) (ht : ∀ (s : Shared) (H : Hp) (C : Addr) (cl : List (Str × Addr)) (fp : List Addr), DTs (X.blk s H scope (compEnvC scope cl C X.env) fp) dk WF ifs tt)
    (he : ∀ (s : Shared) (H : Hp) (C : Addr) (cl : List (Str × Addr)) (fp : List Addr), DE (X.blk s H scope (compEnvC scope cl C X.env) fp) dk WF elt te) (hs : ∀ x, foldedSetIterable iter X.env x = pure x := by intro _; rfl) :
    DF X dk W (.ListComp elt [⟨tg, iter, ifs, 0⟩] scope pos) (dFComp s g tt te (own.map (·.2))) := by
  have b := hg ⟨X.base, #[], X.s_0.drawn, 0, X.s_0.os⟩ (fun _ => none) 0 [] []
  have c := ht ⟨X.base, #[], X.s_0.drawn, 0, X.s_0.os⟩ (fun _ => none) 0 [] []
  have d := he ⟨X.base, #[], X.s_0.drawn, 0, X.s_0.os⟩ (fun _ => none) 0 [] []
  exact ⟨PE.imp (pe_lc (g := tDG X.K dk (own.map (·.2)) g) (tt := tDT X.K X.mg dk WF tt) (te := tDE X.K X.mg dk WF te) hc hN hi.pi ok (fun a b c d e => (hg a b c d e).pg) (fun a b c d e => (ht a b c d e).pt) (fun a b c d e => (he a b c d e).pe) hs) fun σ H Q q => comp_core hi.mono b.mono c.mono d.mono _ q, monoComp hi.mono b.mono c.mono d.mono⟩
/-- name = [..] on one line -/
theorem ds_setLc (i : Nat) {y : Str} {py spos : Pos} (hc : X.calm = true) (hN : X.N.Nodup) (hi : DI X dk W tg iter s) (ok : BlkOk X.N X.env.scope scope own)
    (hg : ∀ (s : Shared) (H : Hp) (C : Addr) (cl : List (Str × Addr)) (fp : List Addr), DG (X.blk s H scope (compEnvC scope cl C X.env) fp) dk (own.map (·.2)) tg g) (ht : ∀ (s : Shared) (H : Hp) (C : Addr) (cl : List (Str × Addr)) (fp : List Addr), DTs (X.blk s H scope (compEnvC scope cl C X.env) fp) dk WF ifs tt)
    (he : ∀ (s : Shared) (H : Hp) (C : Addr) (cl : List (Str × Addr)) (fp : List Addr), DE (X.blk s H scope (compEnvC scope cl C X.env) fp) dk WF elt te)
    (hy : X.N[i]? = some y := by rfl) (hyl : X.env.scope.names.lookup y = some .local := by rfl)
    (hsw : swapsWith (.ListComp elt [⟨tg, iter, ifs, 0⟩] scope pos) (some (.Name y py)) spos.line X.env = pure true := by exact sw_true rfl rfl rfl (by decide +kernel)) (hs : ∀ x, foldedSetIterable iter X.env x = pure x := by intro _; rfl) :
    DS X dk W (.Assign [.Name y py] (.ListComp elt [⟨tg, iter, ifs, 0⟩] scope pos) spos) (dAsg i (dOfF (dFComp s g tt te (own.map (·.2))))) := by
  have b := hg ⟨X.base, #[], X.s_0.drawn, 0, X.s_0.os⟩ (fun _ => none) 0 [] []
  have c := ht ⟨X.base, #[], X.s_0.drawn, 0, X.s_0.os⟩ (fun _ => none) 0 [] []
  have d := he ⟨X.base, #[], X.s_0.drawn, 0, X.s_0.os⟩ (fun _ => none) 0 [] []
  have mm := monoComp (vs := own.map (·.2)) hi.mono b.mono c.mono d.mono
  refine ⟨PS.imp (ps_setLc (g := tDG X.K dk (own.map (·.2)) g) (tt := tDT X.K X.mg dk WF tt) (te := tDE X.K X.mg dk WF te) hc hN hy hyl hsw hi.pi ok (fun a b c d e => (hg a b c d e).pg) (fun a b c d e => (ht a b c d e).pt) (fun a b c d e => (he a b c d e).pe) hs) fun D σ H ⟨B, ρ, r, q⟩ => ?_, monoAsg fun ρ Q Q' E E' hQ hE q => mm ρ _ _ _ _ (fun v ρ' q => hQ _ _ q) hE q⟩
  refine comp_core hi.mono b.mono c.mono d.mono _ (bindF mm r q (fun _ _ _ z => exS.toE z) fun xs ρ1 vs p B1 H1 z l s h1 h2 h3 h4 h5 h6 => ?_)
  have l' := l.free h3
  have rv : RepV X.K dk (fun b => B1 b ∧ b ≠ p) H1 (.ref p) (.d (.list xs)) := .list h1 (fun z => z.2 rfl) h5 (RepPs.less (fun b z => z.1) h6)
  obtain ⟨l2, s2⟩ := l'.set i rv
  exact z _ _ H1 l2 (Step.trans ⟨s.keep, s.trk, fun b hb n t => ⟨s.stay b hb n t, fun e => t (e ▸ h4)⟩, fun b hb => s.bnew b hb.1, s.unew⟩ s2)
end
end DL
set_option maxHeartbeats 400000
/-! D11: defs: what one promises over trees, its call, its body. -/
namespace DL
open PySem PySem.Spec
open PyProof.Rows hiding St
open L2

/-- a def's promise over trees: the arguments, the wanted value, the wanted exception -/
abbrev Spec := List Val → (Val → Prop) → (Str → PyData → Prop) → Prop
def MonoC (S : Spec) : Prop := ∀ as Q Q' E E', (∀ v, Q v → Q' v) → (∀ c th, E c th → E' c th) → S as Q E → S as Q' E'
def spD (K : PySem.W.Frag) (mg : Str → Option Value) (n : Nat) (S : Spec) : Sp := fun vs H Q E => vs.length = n ∧ ∃ (dk : Dk) (B : Addr → Prop) (as : List Val), DeckAt dk H ∧ (∀ a, dkU dk a → B a) ∧ (∀ a, B a → H a ≠ none) ∧ RepVs K dk B H vs as ∧
  S as (fun v => ∀ x H', Keep dk H H' → RepV K dk B H' x v → Q x H') (fun c th => ∀ C dx x H', mg c = some (.ref C) → H' dx = some (.xd [(fldOf c, x)]) → RepP K B H' x th → Keep dk H H' → E (.ref C) (some dx) H')

/-- a def keeps its promise, called where no guard is set -/
structure FnG (P : Program) (w : World) (K : PySem.W.Frag) (mg : Str → Option Value) (base : Heap) (k : Nat) (f : Addr) (fd : FuncData) (ps : List Str) (sp : Sp) : Prop where
  len : ∀ vs H Q E, sp vs H Q E → vs.length = ps.length
  run : ∀ (A : Around) (outer : List PySem.Env) (s : Shared) (H : Hp) (args : Args) (us : List Value) (vs : List V) (Q : VK) (E : XK), Room k A → A.guards = some [] → Env0 P w K mg base A outer s H → BindsTo s fd args (ps.zip us) → Vals vs us → sp vs H Q E →
    codeAny (model P w) A (.call (.ref f) args) (CR (L2.CX P w) outer P w H s Q E) s
section
variable {P : Program} {w : World} {K : PySem.W.Frag} {mg : Str → Option Value} {base : Heap} {k j : Nat} {f : Addr} {fd : FuncData} {ps : List Str} {sp sp' : Sp}
theorem FnG.mono (F : FnG P w K mg base j f fd ps sp) (h : j ≤ k) : FnG P w K mg base k f fd ps sp := ⟨F.len, fun A outer s H args us vs Q E hr => F.run A outer s H args us vs Q E (hr.mono h)⟩
theorem FnG.imp (F : FnG P w K mg base k f fd ps sp) (h : ∀ vs H Q E, sp' vs H Q E → sp vs H Q E) : FnG P w K mg base k f fd ps sp' :=
  ⟨fun vs H Q E q => F.len vs H Q E (h _ _ _ _ q), fun A outer s H args us vs Q E r g e b v q => F.run A outer s H args us vs Q E r g e b v (h _ _ _ _ q)⟩
theorem FnG.spec {n : Nat} {S S' : Spec} (F : FnG P w K mg base k f fd ps (spD K mg n S)) (h : ∀ as Q E, S' as Q E → S as Q E) : FnG P w K mg base k f fd ps (spD K mg n S') :=
  F.imp fun vs H Q E ⟨a, dk, B, as, b, c, d, e, q⟩ => ⟨a, dk, B, as, b, c, d, e, h _ _ _ q⟩
end

/-! ### the call -/
def pick {α : Type} : List Nat → List α → Option (List α)
  | [], _ => some []
  | i :: r, xs => match xs[i]?, pick r xs with
    | some x, some ys => some (x :: ys)
    | _, _ => none
theorem pick_vals {xs : List V} {us : List Value} (r : Vals xs us) : ∀ {π : List Nat} {ys : List V}, pick π xs = some ys → ∃ ws, pick π us = some ws ∧ Vals ys ws
  | [], ys, h => by cases h; exact ⟨[], rfl, .nil⟩
  | i :: π, ys, h => by
    unfold pick at h ⊢
    cases e1 : xs[i]? with
    | none => rw [e1] at h; cases h
    | some x =>
      cases e2 : pick π xs with
      | none => rw [e1, e2] at h; cases h
      | some zs =>
        rw [e1, e2] at h
        cases h
        obtain ⟨u, hu, ru⟩ := r.get e1
        obtain ⟨ws, hw, rw'⟩ := pick_vals r e2
        exact ⟨u :: ws, by rw [hu, hw], .cons ru rw'⟩
theorem RepVs.get {K : PySem.W.Frag} {dk : Dk} {B : Addr → Prop} {H : Hp} : ∀ {v : List V} {d : List Val} (i : Nat) {x : Val}, RepVs K dk B H v d → d[i]? = some x → ∃ u, v[i]? = some u ∧ RepV K dk B H u x
  | _, _, _, _, .nil, e => by simp at e
  | _, _, 0, _, .cons r _, e => by simp at e; subst e; exact ⟨_, rfl, r⟩
  | _, _, i + 1, x, .cons _ t, e => by
    obtain ⟨u, h1, h2⟩ := RepVs.get i t (by simpa using e)
    exact ⟨u, by simpa using h1, h2⟩
theorem pick_rep {K : PySem.W.Frag} {dk : Dk} {B : Addr → Prop} {H : Hp} {xs : List V} {us : List Val} (r : RepVs K dk B H xs us) : ∀ {π : List Nat} {ys : List Val}, pick π us = some ys → ∃ ws, pick π xs = some ws ∧ RepVs K dk B H ws ys
  | [], ys, h => by cases h; exact ⟨[], rfl, .nil⟩
  | i :: π, ys, h => by
    unfold pick at h ⊢
    cases e1 : us[i]? with
    | none => rw [e1] at h; cases h
    | some x =>
      cases e2 : pick π us with
      | none => rw [e1, e2] at h; cases h
      | some zs =>
        rw [e1, e2] at h
        cases h
        obtain ⟨u, hu, ru⟩ := r.get i e1
        obtain ⟨ws, hw, rw'⟩ := pick_rep r e2
        exact ⟨u :: ws, by rw [hu, hw], .cons ru rw'⟩
def dCall (n : Nat) (S : Spec) (a : DTA) : DTE := fun ρ Q E => a ρ (fun vs ρ1 => vs.length = n ∧ S vs (fun v => Q v ρ1) (fun c th => E c th ρ1)) E
def dCallK (n m : Nat) (S : Spec) (π : List Nat) (a : DTA) : DTE := fun ρ Q E => a ρ (fun vs ρ1 => match pick π vs with
  | some as => (vs.length = m ∧ as.length = n) ∧ S as (fun v => Q v ρ1) (fun c th => E c th ρ1)
  | none => False) E
theorem monoCall {n : Nat} {S : Spec} {a : DTA} (mS : MonoC S) (m : MonoA a) : MonoE (dCall n S a) := fun ρ Q Q' E E' hQ hE q => m _ _ _ _ _ (fun vs ρ1 z => ⟨z.1, mS _ _ _ _ _ (fun v z => hQ _ _ z) (fun c th z => hE _ _ _ z) z.2⟩) hE q
theorem monoCallK {n m' : Nat} {S : Spec} {π : List Nat} {a : DTA} (mS : MonoC S) (m : MonoA a) : MonoE (dCallK n m' S π a) := fun ρ Q Q' E E' hQ hE q => m _ _ _ _ _ (fun vs ρ1 z => by
  cases e : pick π vs with
  | none => rw [e] at z; exact z
  | some as => rw [e] at z; exact ⟨z.1, mS _ _ _ _ _ (fun v z => hQ _ _ z) (fun c th z => hE _ _ _ z) z.2⟩) hE q
structure DK (X : Cx) (dk : Dk) (W : WX) (kws : List Keyword) (t : DTA) : Prop where
  pk : PK X kws (tDA X.K X.mg dk W t)
  mono : MonoA t
theorem PK.imp {X : Cx} {e : List Keyword} {t t' : TA} (h : PK X e t) (i : ∀ σ H Q, t' σ H Q → t σ H Q) : PK X e t' := ⟨fun pos pins s σ H Q I q => h.run pos pins s σ H Q I (i _ _ _ q)⟩
/-- every parameter by its keyword: ks as written, π the parameters' places among them -/
def KwTo (fd : FuncData) (ps ks : List Str) (π : List Nat) : Prop := ∀ ws us : List Value, ws.length = ks.length → pick π ws = some us → us.length = ps.length → bindArgs fd ⟨[], ks.zip ws⟩ = pure (ps.zip us)

section
variable {X : Cx} {dk : Dk} {W : WX} {k n : Nat} {f : Addr} {fd : FuncData} {ps ks : List Str} {S : Spec} {x : Str} {p pos kpos : Pos} {e : Expr} {es : List Expr} {kws : List Keyword} {t : DTE} {a : DTA} {nm : Option Str} {π : List Nat}
/-- the callee runs -/
theorem run_fnG {sp : Sp} {E : XK} {pins : List (Addr × Obj)} {σ : L2.St} {H : Hp} {s : Shared} {Q : VK} {args : Args} {us : List Value} {vs : List V} (F : FnG X.prog X.w X.K X.mg X.base k f fd ps sp) (hr : Room k X.A) (hG : X.A.guards = some []) (I : Inv X pins σ H s) (hb : BindsTo s fd args (ps.zip us)) (r : Vals vs us)
    (hx : ∀ e s', L2.CX X.prog X.w X.stack H s E e s' → X.xe e s') (h : sp vs H Q E) : wpAny (model X.prog X.w) X.A (call (.ref f) args.pos args.kw) (EP X pins σ Q) X.xe s := by
  refine wpAny_call (codeAny_mono (F.run X.A X.stack s H args us vs Q E hr hG I.env0 hb r h) fun res s' got => ?_)
  match res, got with
  | .error e, got => exact hx e s' got
  | .ok (.ret u), got => exact I.after got
theorem sp_of {σ : L2.St} {H : Hp} {Q : VK} {B : Addr → Prop} {ρ : Env} {vs : List V} {as : List Val} (mS : MonoC S) (l : Rel X.K dk B H σ ρ) (rv : RepVs X.K dk B H vs as) (hn : as.length = n) {B0 : Addr → Prop} {H0 : Hp} {ρ0 : Env} (s : Step (UU dk σ ρ0) B0 H0 (UU dk σ ρ) B H)
    (q : S as (fun v => okE X.K dk Q B0 H0 σ ρ0 v ρ) (fun c th => exE X.K X.mg dk W B0 H0 σ ρ0 c th ρ)) : spD X.K X.mg n S vs H Q (WE W σ) := by
  refine ⟨by rw [rv.length, hn], dk, B, as, l.deck, l.deckB, l.trk, rv, mS _ _ _ _ _ (fun v z y H' kp rv' => ?_) (fun c th z C dx y H' h1 h2 h3 kp => ?_) q⟩
  · obtain ⟨l', s'⟩ := l.kept kp
    exact z y B H' l' (s.trans s') rv'
  · obtain ⟨l', s'⟩ := l.kept kp
    exact z C dx y B H' h1 h2 h3 l' (s.trans s')
theorem de_call (F : FnG X.prog X.w X.K X.mg X.base k f fd ps (spD X.K X.mg n S)) (mS : MonoC S) (hr : Room k X.A) (hG : X.A.guards = some []) (tk : Takes X W) (hm : X.mg x = some (.ref f)) (hk : PySem.W.keepIn X.K (.ref f) = true) (hb : Binds X.K fd ps [])
    (ha : DA X dk W (e :: es) a) (hg : Gl X x := by rfl) (hdb : (x == ("__debug__" : Str)) = false := by decide) (he : starEach (e :: es) X.env = (false, eval e X.env) :: starEach es X.env := by rfl) (hpl : (backTo pos (starEach es X.env)).any (·.1) = false := by rfl) :
    DE X dk W (.Call (.Name x p) (e :: es) [] pos) (dCall n S a) := by
  refine ⟨⟨fun pins s σ H Q I h => ?_⟩, monoCall mS ha.mono⟩
  refine wpAny_Call_Name_kw (ld_glob I hg hm ?_ hdb)
  obtain ⟨B, ρ, r, h⟩ := h
  refine PySem.W.callWith_K (h₀ := X.base) I.ok.mod.kin hk (thn (ha.pa.run pos pins s σ H (fun vs H1 => spD X.K X.mg n S vs H1 Q (WE W σ)) I (bindA ha.mono r h (fun _ _ _ z => z) fun vs ρ1 xs B1 H1 z l st rv => sp_of mS l rv z.1 st z.2)) fun us s1 ⟨vs, H1, I1, rv, q⟩ => ⟨I1.kIn, ?_⟩) he hpl
  have hl : (us ++ []).length = ps.length := by
    rw [List.append_nil, ← rv.length]
    exact F.len _ _ _ _ q
  have bb := hb s1 us I1.kIn hl
  rw [List.append_nil] at bb
  exact run_fnG (args := ⟨us, []⟩) F hr hG I1 bb rv (fun e s' c => passAt tk σ pins H1 s1 e s' I1 c) q
theorem dk_nil : DK X dk W [] dNil := ⟨PK.imp pk_nil fun σ H Q ⟨B, ρ, r, q⟩ => q [] B H r Step.refl .nil, monoNil⟩
theorem dk_cons (h : DE X dk W e t) (hk : DK X dk W kws a) : DK X dk W (⟨nm, e, kpos⟩ :: kws) (dCons t a) :=
  ⟨PK.imp (pk_cons h.pe hk.pk) fun σ H Q ⟨B, ρ, r, q⟩ => bindE h.mono r q (fun _ _ _ z => z) fun v ρ1 x B1 H1 p l s rv =>
    bindA hk.mono l p (fun _ _ _ z => exE.next s z) fun vs ρ2 xs B2 H2 p2 l2 s2 r2 => p2 (x :: xs) B2 H2 l2 (s.trans s2) (.cons (rv.step s2 l.UB) r2), monoCons h.mono hk.mono⟩
theorem pick_len {α : Type} {xs : List α} : ∀ {π : List Nat} {ys : List α}, pick π xs = some ys → ys.length = π.length
  | [], ys, h => by cases h; rfl
  | i :: π, ys, h => by
    unfold pick at h
    cases e1 : xs[i]? with
    | none => rw [e1] at h; cases h
    | some x =>
      cases e2 : pick π xs with
      | none => rw [e1, e2] at h; cases h
      | some zs =>
        rw [e1, e2] at h
        cases h
        simp [pick_len e2]
theorem de_callK (F : FnG X.prog X.w X.K X.mg X.base k f fd ps (spD X.K X.mg n S)) (mS : MonoC S) (hr : Room k X.A) (hG : X.A.guards = some []) (tk : Takes X W) (hm : X.mg x = some (.ref f)) (hk : PySem.W.keepIn X.K (.ref f) = true) (hb : KwTo fd ps ks π)
    (ha : DK X dk W kws a) (hg : Gl X x := by rfl) (hall : (backToKw pos (keywordEach kws X.env)).all (·.1.isSome) = true := by rfl) (hks : (backToKw pos (keywordEach kws X.env)).filterMap (·.1) = ks := by rfl) (hkl : (backToKw pos (keywordEach kws X.env)).length = ks.length := by rfl)
    (hdb : (x == ("__debug__" : Str)) = false := by decide) (hpl : ((backTo pos (starEach [] X.env)).any (·.1) || (backToKw pos (keywordEach kws X.env)).any (·.1.isNone)) = false := by rfl) :
    DE X dk W (.Call (.Name x p) [] kws pos) (dCallK n ks.length S π a) := by
  refine ⟨⟨fun pins s σ H Q I h => ?_⟩, monoCallK mS ha.mono⟩
  refine wpAny_Call_Name_kw (ld_glob I hg hm ?_ hdb)
  obtain ⟨B, ρ, r, h⟩ := h
  refine PySem.W.callWith_KW0 (h₀ := X.base) I.ok.mod.kin hk hall (thn (ha.pk.run pos pins s σ H (fun vs H1 => ∃ ys, vs.length = ks.length ∧ pick π vs = some ys ∧ spD X.K X.mg n S ys H1 Q (WE W σ)) I (bindA ha.mono r h (fun _ _ _ z => z) fun vs ρ1 xs B1 H1 z l st rv => ?_)) fun us s1 ⟨vs, H1, I1, rv, q⟩ => ⟨I1.kIn, ?_⟩) hpl
  · cases e1 : pick π vs with
    | none => rw [e1] at z; exact z.elim
    | some as =>
      rw [e1] at z
      obtain ⟨ws, hw, rw'⟩ := pick_rep rv e1
      exact ⟨ws, by rw [rv.length]; exact z.1.1, hw, sp_of mS l rw' z.1.2 st z.2⟩
  · rw [hks]
    obtain ⟨ys, hv, hy, q⟩ := q
    obtain ⟨ws, hw, rw'⟩ := pick_vals rv hy
    have hl : ws.length = ps.length := by rw [← rw'.length]; exact F.len _ _ _ _ q
    exact run_fnG (args := ⟨[], ks.zip us⟩) F hr hG I1 (.of_eq (hb us ws (by rw [← rv.length]; exact hv) hw hl)) rw' (fun e s' c => passAt tk σ pins H1 s1 e s' I1 c) q
end

/-! ### the body -/
def startE (N : List Str) (as : List Val) : Env := as.map .val ++ List.replicate (N.length - as.length) .un
def bodyS (N : List Str) (n : Nat) (t : DTS) : Spec := fun as Q E => as.length = n ∧ t { nx := fun _ => Q (.d .none), rt := fun v _ => Q v, bk := fun _ => False, ct := fun _ => False, ex := fun c th _ => E c th } (startE N as)
theorem monoBody {N : List Str} {n : Nat} {t : DTS} (m : MonoS t) : MonoC (bodyS N n t) := fun as Q Q' E E' hQ hE h => ⟨h.1, m { nx := fun _ => Q (.d .none), rt := fun v _ => Q v, bk := fun _ => False, ct := fun _ => False, ex := fun c th _ => E c th } _ _ ⟨fun _ z => hQ _ z, fun v _ z => hQ v z, fun _ z => z, fun _ z => z, fun c th _ z => hE c th z⟩ h.2⟩
section
variable {K : PySem.W.Frag} {dk : Dk} {B : Addr → Prop} {H : Hp}
theorem start_get {N : List Str} : ∀ {vs : List V} {as : List Val} {i : Nat} {s : Slot}, RepVs K dk B H vs as → (startE N as)[i]? = some s → s = .un ∨ ∃ v x, s = .val v ∧ (L2.start N vs)[i]? = some (some x) ∧ RepV K dk B H x v := fun {vs as i s} r h => by
  unfold startE at h
  by_cases hi : i < as.length
  · rw [List.getElem?_append_left (by simpa using hi), List.getElem?_map] at h
    cases e : as[i]? with
    | none => rw [e] at h; cases h
    | some v =>
      rw [e] at h
      cases h
      obtain ⟨x, hx, rx⟩ := r.get i e
      refine .inr ⟨v, x, rfl, ?_, rx⟩
      unfold L2.start
      rw [List.getElem?_append_left (by rw [List.length_map, r.length]; exact hi), List.getElem?_map, hx]
      rfl
  · rw [List.getElem?_append_right (by simpa using hi), List.getElem?_replicate] at h
    split at h
    · cases h; exact .inl rfl
    · cases h
theorem Rel.start {N : List Str} {vs : List V} {as : List Val} (r : RepVs K dk B H vs as) (h1 : DeckAt dk H) (h2 : ∀ a, dkU dk a → B a) (h3 : ∀ a, B a → H a ≠ none) : Rel K dk B H (L2.start N vs) (startE N as) ∧ ∀ a, UU dk (L2.start N vs) (startE N as) a → dkU dk a := by
  have no : ∀ i a, ¬ OwnAt (L2.start N vs) (startE N as) i a := fun i a ⟨s, e, o, _⟩ => by
    rcases start_get r e with rfl | ⟨v, x, rfl, _⟩ <;> cases o
  refine ⟨⟨?_, fun i s e => ?_, fun i j a h => absurd h (no i a), fun i a h => absurd h (no i a), h1, h2, h3⟩, fun a h => ?_⟩
  · unfold L2.start startE
    rw [List.length_append, List.length_append, List.length_map, List.length_map, List.length_replicate, List.length_replicate, r.length]
  · rcases start_get r e with rfl | ⟨v, x, rfl, hx, rx⟩
    · trivial
    · exact ⟨x, hx, rx⟩
  · rcases h with h | ⟨i, h⟩
    · exact h
    · exact absurd h (no i a)
end
/-- an exception that leaves the body -/
abbrev WL (E : XK) : WX := fun cls d _ H => E cls d H
section
variable {P : Program} {w : World} {K : PySem.W.Frag} {mg : Str → Option Value} {base : Heap} {x qual : Str} {st : Stmt} {f : Addr} {fd : FuncData} {N ps : List Str} {k : Nat} {t : DTS} {S : Spec}
/-- THE RULE for a def -/
theorem fn_body (F : Fun K x qual st f fd) (sc : FnScope N ps (defScope st))
    (hbody : ∀ (cdv : Value) (A : Around) (outer : List PySem.Env) (s : Shared) (H : Hp) (E : XK) (dk : Dk), Room k (A.deeper (envOfC qual (defScope st) s.heap.objs.size f cdv)) → (A.deeper (envOfC qual (defScope st) s.heap.objs.size f cdv)).guards = some [] →
      DSs (cxOf (L2.CX P w) P w K mg base N qual (defScope st) f cdv A outer s H E) dk (WL E) (defBody st) t) : FnG P w K mg base (k + 1) f fd ps (spD K mg ps.length (bodyS N ps.length t)) := by
  obtain ⟨oc, od, kV, doc, pm, an, cdv, ct, osl, rfl, lk, hcd⟩ := F.ex
  refine ⟨fun vs H Q E h => h.1, fun A outer s H args us vs Q E hr hG env bind rv hsp => ?_⟩
  obtain ⟨hl, dk, B, as, d1, d2, d3, ra, hlen, q⟩ := hsp
  have inK : K.In s.heap := env.mod.kin.keeps fun b o z => (env.bs b o z).1
  have kinds : ∀ y ∈ ps.zip us, (defScope st).names.lookup y.1 = some .local ∨ ((defScope st).names.lookup y.1 = some .cell ∧ ((cellsFrom (s.heap.objs.size + 1) (defScope st).names []).lookup y.1).isSome = true) := by
    rintro ⟨nm, val⟩ hy
    exact (sc.par nm (List.of_mem_zip hy).1).imp id fun z => ⟨z, PySem.W.cellsFrom_some _ _ _ (.inl z)⟩
  refine codeAny_call_function hr.depth (inK _ _ lk) rfl sc.co sc.gen rfl (PySem.W.codeRec_of inK hcd) (bind _ _ _ _ (wpAny_newFunctionEnv_cells sc.kind kinds fun env' he s1 entered => ?_))
  subst he
  refine ⟨(env.mod.nolimit.keeps fun b o z => (env.bs b o z).1).keeps entered.toInCall.keep, codeAny_func ?_⟩
  have body := hbody cdv A outer s H E dk (hr.deeper _) hG
  have J : Inv (cxOf (L2.CX P w) P w K mg base N qual (defScope st) f cdv A outer s H E) [] (L2.start N vs) H s1 := inv_start sc hr.hd env hl rv entered
  obtain ⟨rel, ud⟩ := Rel.start (N := N) ra d1 d2 d3
  -- what the body leaves, seen from the call
  have seen : ∀ {σ' : L2.St} {ρ' : Env} {B' : Addr → Prop} {H' : Hp}, Rel K dk B' H' σ' ρ' → Step (UU dk (L2.start N vs) (startE N as)) B H (UU dk σ' ρ') B' H' → Keep dk H H' ∧ ∀ a, B a → B' a := fun {σ' ρ' B' H'} l z =>
    ⟨⟨fun a o h n t => z.keep a o h (fun u => n (ud a u)) t, z.trk, l.deck⟩, fun a h => by
      by_cases u : UU dk (L2.start N vs) (startE N as) a
      · exact l.deckB a (ud a u)
      · exact z.stay a h u (d3 a h)⟩
  have start : tDS K mg dk (WL E) t { nx := fun _ H' => Q .non H', rt := Q } (L2.start N vs) H := by
    let R : DEnds := DEnds.mk (fun _ => (∀ (y : V) (H' : Hp), Keep dk H H' → RepV K dk B H' y (.d .none) → Q y H')) (fun v _ => (∀ (y : V) (H' : Hp), Keep dk H H' → RepV K dk B H' y v → Q y H')) (fun _ => False) (fun _ => False)
      (fun c th _ => (∀ (C : Addr) (dx : Addr) (y : V) (H' : Hp), mg c = some (.ref C) → H' dx = some (.xd [(fldOf c, y)]) → RepP K B H' y th → Keep dk H H' → E (.ref C) (some dx) H'))
    refine ⟨B, _, rel, body.mono R _ _ ⟨?_, ?_, fun _ z => z.elim, fun _ z => z.elim, ?_⟩ q⟩
    · exact fun ρ' z σ' B' H' l z' => z .non H' (seen l z').1 .none
    · exact fun v ρ' z y σ' B' H' l z' ry => z y H' (seen l z').1 (ry.less (seen l z').2)
    · exact fun c th ρ' z C dx y σ' B' H' h1 h2 h3 l z' => z C dx y H' h1 h2 (RepP.less (seen l z').2 h3) (seen l z').1
  have run := body.ps.run [] s1 (L2.start N vs) H { nx := fun _ H' => Q .non H', rt := Q } J start
  refine wpAny_mono run (fun fl s' got => ?_) fun e s' got => got
  cases fl with
  | ret u =>
    obtain ⟨v, σ', H', I', r', q'⟩ := got
    exact ⟨v, H', I'.os, I'.bare, I'.base, I'.hok, r', q'⟩
  | next =>
    obtain ⟨σ', H', I', q'⟩ := got
    exact ⟨V.non, H', I'.os, I'.bare, I'.base, I'.hok, rfl, q'⟩
  | brk =>
    obtain ⟨_, _, _, q'⟩ := got
    exact q'.elim
  | cont =>
    obtain ⟨_, _, _, q'⟩ := got
    exact q'.elim
end
end DL
set_option maxHeartbeats 1000000
/-! D12: zip and enumerate over lists, tuples, texts in any mix; isinstance; list(range(..)). -/
namespace DL
open PySem PySem.Spec
open PyProof.Rows hiding St
open L2

inductive Side
  | l (a : Addr)
  | t (a : Addr)
  | x (y : Str)
def signV (y : Str) : List V := y.cps.toList.map fun c => V.str ⟨#[c]⟩
def signD (y : Str) : List PyData := y.cps.toList.map fun c => PyData.str ⟨#[c]⟩
def Side.fp : Side → List Addr
  | .l a => [a]
  | .t a => [a]
  | .x _ => []
def Side.Is (K : PySem.W.Frag) (H : Hp) : Side → List V → Prop
  | .l a, xs => SqL K H a xs
  | .t a, xs => SqT K H a xs
  | .x y, xs => xs = signV y
def Side.at : Side → Addr → Nat → Heap → Prop
  | .l a, it, i, h => h.IsListIter it a i
  | .t a, it, i, h => h.IsTupleIter it a i
  | .x y, it, i, h => ∃ t, h.IsStrIter it (strIterType y) y t i
def Side.Rv (s : Side) (x : V) : Prop := match s with
  | .l a => x = .ref a
  | .t a => x = .ref a
  | .x y => x = .str y
theorem Side.look {sd : Side} {it : Addr} {i : Nat} {h : Heap} (st : sd.at it i h) : ∃ o, h.get? it = some o ∧ ∀ v, o.data ≠ .cell v := by
  cases sd with
  | l a => obtain ⟨o, e, _, d⟩ := st; exact ⟨o, e, fun v q => by rw [d] at q; cases q⟩
  | t a => obtain ⟨o, e, _, d⟩ := st; exact ⟨o, e, fun v q => by rw [d] at q; cases q⟩
  | x y => obtain ⟨t, o, e, _, d⟩ := st; exact ⟨o, e, fun v q => by rw [d] at q; cases q⟩
theorem Side.keep {sd : Side} {it : Addr} {i : Nat} {h h' : Heap} (st : sd.at it i h) (k : ∀ o, h.get? it = some o → h'.get? it = some o) : sd.at it i h' := by
  cases sd with
  | l a => obtain ⟨o, e, r⟩ := st; exact ⟨o, k o e, r⟩
  | t a => obtain ⟨o, e, r⟩ := st; exact ⟨o, k o e, r⟩
  | x y => obtain ⟨t, o, e, r⟩ := st; exact ⟨t, o, k o e, r⟩
theorem Side.inj {X : Cx} {pins : List (Addr × Obj)} {σ : L2.St} {H : Hp} {s : Shared} (I : Inv X pins σ H s) {sd : Side} {xs ys : List V} (h1 : sd.Is X.K H xs) (h2 : sd.Is X.K H ys) : xs = ys := by
  cases sd with
  | l a => exact I.list_inj h1 h2
  | t a => exact I.tuple_inj h1 h2
  | x y => exact h1.trans h2.symm
/-- what its iterator draws -/
theorem Side.draws {X : Cx} {pins : List (Addr × Obj)} {σ : L2.St} {H : Hp} {s : Shared} (I : Inv X pins σ H s) (hc : X.calm = true) {sd : Side} {xs : List V} {it : Addr} {i : Nat} (h : sd.Is X.K H xs) (st : sd.at it i s.heap) (hne : ∀ b ∈ sd.fp, b ≠ it) :
    ∃ (n : Nat) (P : Nat → Value → Prop) (St : Nat → Heap → Prop), Draws X.prog X.w X.A.in1 it (it :: sd.fp) n P St ∧ St i s.heap ∧ n = xs.length ∧ (∀ j v, P j v → ∃ x, xs[j]? = some x ∧ RelV x v) ∧ ∀ j h, St j h → sd.at it j h := by
  have hh : X.A.in1.handled = none := show X.A.handled = none from I.ok.hd hc
  cases sd with
  | l a =>
    obtain ⟨its, rv, p, _⟩ := I.list h
    refine ⟨_, _, _, Draws.list hh it a (hne a List.mem_cons_self) its.toArray, ⟨st, p.isList⟩, by rw [List.size_toArray, ← rv.length], fun j v hv => ?_, fun j h z => z.1⟩
    have hj : its[j]? = some v := by simpa using hv
    have hl : j < xs.length := by
      rw [rv.length]
      exact (List.getElem?_eq_some_iff.mp hj).1
    obtain ⟨u, hu, ru⟩ := rv.get (List.getElem?_eq_getElem hl)
    rw [hj] at hu
    cases hu
    exact ⟨_, List.getElem?_eq_getElem hl, ru⟩
  | t a =>
    obtain ⟨its, rv, p, _⟩ := I.tuple h
    refine ⟨_, _, _, Draws.tuple hh it a (hne a List.mem_cons_self) its.toArray, ⟨st, p⟩, by rw [List.size_toArray, ← rv.length], fun j v hv => ?_, fun j h z => z.1⟩
    have hj : its[j]? = some v := by simpa using hv
    have hl : j < xs.length := by
      rw [rv.length]
      exact (List.getElem?_eq_some_iff.mp hj).1
    obtain ⟨u, hu, ru⟩ := rv.get (List.getElem?_eq_getElem hl)
    rw [hj] at hu
    cases hu
    exact ⟨_, List.getElem?_eq_getElem hl, ru⟩
  | x y =>
    obtain ⟨t, st⟩ := st
    have h : xs = signV y := h
    subst h
    refine ⟨_, _, _, Draws.text hh it y t, st, by unfold signV; simp, fun j v hv => ?_, fun j h z => ⟨t, z⟩⟩
    obtain ⟨c, u, hc, rfl⟩ := hv
    refine ⟨.str ⟨#[c]⟩, ?_, u, rfl⟩
    unfold signV
    rw [List.getElem?_map, Array.getElem?_toList, hc]
    rfl
/-- how it begins -/
theorem Side.begins {X : Cx} {pins : List (Addr × Obj)} {σ : L2.St} {H : Hp} {s : Shared} (I : Inv X pins σ H s) {sd : Side} {xs : List V} {v : V} {u : Value} (h : sd.Is X.K H xs) (hv : sd.Rv v) (r : RelV v u) :
    ∃ (o : Obj) (G : Heap → Prop), Begins u o G ∧ G s.heap ∧ (∀ b ∈ sd.fp, b < s.heap.objs.size) ∧ ∀ it h', h'.get? it = some o → sd.at it 0 h' := by
  cases sd with
  | l a =>
    cases (show v = .ref a from hv)
    cases r
    obtain ⟨its, rv, p, _⟩ := I.list h
    refine ⟨_, _, begins_list a its.toArray, p.isList, fun b hb => ?_, fun it h' e => ⟨_, e, rfl, rfl⟩⟩
    cases List.mem_singleton.mp hb
    exact p.lt
  | t a =>
    cases (show v = .ref a from hv)
    cases r
    obtain ⟨its, rv, p, _⟩ := I.tuple h
    refine ⟨_, _, begins_tuple a its.toArray, p, fun b hb => ?_, fun it h' e => ⟨_, e, rfl, rfl⟩⟩
    cases List.mem_singleton.mp hb
    obtain ⟨o, ho, _⟩ := p
    exact Heap.lt_size ho
  | x y =>
    cases (show v = .str y from hv)
    obtain ⟨t, rfl⟩ := r
    exact ⟨_, _, begins_text y t, trivial, (fun b hb => by cases hb), fun it h' e => ⟨t, _, e, rfl, rfl⟩⟩

/-! ### zip -/
def ItZ (K : PySem.W.Frag) (a b : Side) : It :=
  ⟨fun i H => ∃ (xs ys : List V) (x y : V), a.Is K H xs ∧ b.Is K H ys ∧ xs[i]? = some x ∧ ys[i]? = some y,
    fun i H v H' => ∃ T x y, v = .ref T ∧ H T = none ∧ H' = upd H T (.tup [x, y]) ∧ (∀ xs, a.Is K H xs → xs[i]? = some x) ∧ ∀ ys, b.Is K H ys → ys[i]? = some y,
    fun i H => ∃ xs ys : List V, a.Is K H xs ∧ b.Is K H ys ∧ i = min xs.length ys.length⟩
theorem turn_Z {P : Program} {w : World} {K : PySem.W.Frag} {elts : List Expr} {kk : Nat} {tpos : Pos} {a b : Side} {z TI TO i1 i2 : Addr} (D : ZipSep2 z TI TO i1 i2 (i1 :: a.fp) (i2 :: b.fp)) (n1 : ∀ c ∈ a.fp, c ≠ i1) (n2 : ∀ c ∈ b.fp, c ≠ i2) :
    Turn P w K (.Tuple elts kk tpos) (ItZ K a b) [z, TI, TO, i1, i2] z (fun i h => IsZip h z TI TO .none ∧ IsTupOf2 h TI (.ref i1) (.ref i2) ∧ (∃ x y, IsTupOf2 h TO x y) ∧ a.at i1 i h ∧ b.at i2 i h) where
  mem := by simp
  obj := fun i h st c hc => by
    obtain ⟨hz, hTI, ⟨x, y, hTO⟩, h1, h2⟩ := st
    have e' : c = z ∨ c = TI ∨ c = TO ∨ c = i1 ∨ c = i2 := by simpa using hc
    rcases e' with q | q | q | q | q
    · rw [q]; exact ⟨_, hz, fun v q => nomatch q⟩
    · rw [q]; exact ⟨_, hTI, fun v q => nomatch q⟩
    · rw [q]; exact ⟨_, hTO, fun v q => nomatch q⟩
    · rw [q]; exact Side.look h1
    · rw [q]; exact Side.look h2
  keep := fun i h h' st k => by
    obtain ⟨hz, hTI, ⟨x, y, hTO⟩, h1, h2⟩ := st
    exact ⟨k z (by simp) _ hz, k TI (by simp) _ hTI, ⟨x, y, k TO (by simp) _ hTO⟩, Side.keep h1 fun o q => k i1 (by simp) o q, Side.keep h2 fun o q => k i2 (by simp) o q⟩
  item := by
    intro X hP hw hK hc i pins s σ H E I hf st hg
    subst hP hw hK
    obtain ⟨hz, hTI, hTO, h1, h2⟩ := st
    obtain ⟨xs, ys, x, y, hqx, hqy, hx, hy⟩ := hg
    obtain ⟨m1, P1, S1, D1, s1, e1, p1, f1⟩ := Side.draws I hc hqx h1 n1
    obtain ⟨m2, P2, S2, D2, s2, e2, p2, f2⟩ := Side.draws I hc hqy h2 n2
    have lx : i < m1 := by rw [e1]; exact (List.getElem?_eq_some_iff.mp hx).1
    have ly : i < m2 := by rw [e2]; exact (List.getElem?_eq_some_iff.mp hy).1
    have fpl : ∀ c, c ∈ [z, TI, TO, i1, i2] → c < s.heap.objs.size := fun c hcm => by
      obtain ⟨x0, y0, hTO⟩ := hTO
      have e' : c = z ∨ c = TI ∨ c = TO ∨ c = i1 ∨ c = i2 := by simpa using hcm
      rcases e' with q | q | q | q | q
      · rw [q]; exact Heap.lt_size hz
      · rw [q]; exact Heap.lt_size hTI
      · rw [q]; exact Heap.lt_size hTO
      · rw [q]; obtain ⟨_, e1, _⟩ := Side.look h1; exact Heap.lt_size e1
      · rw [q]; obtain ⟨_, e2, _⟩ := Side.look h2; exact Heap.lt_size e2
    have W := GoesN.zip2 (elts := elts) (x1 := kk) (pos := tpos) D D1 D2
    refine wpAny_mono (W.goes i s (fun v s2 => ∃ x' H', Inv X pins σ H' s2 ∧ RelV x' v ∧ (ItZ X.K a b).yld i H x' H' ∧ (IsZip s2.heap z TI TO .none ∧ IsTupOf2 s2.heap TI (.ref i1) (.ref i2) ∧ (∃ x y, IsTupOf2 s2.heap TO x y) ∧ a.at i1 (i + 1) s2.heap ∧ b.at i2 (i + 1) s2.heap) ∧ ∀ c ∈ [z, TI, TO, i1, i2], H' c = none) E (by omega) ⟨hz, hTI, hTO, s1, s2⟩ ?_) (fun r t q => q) fun _ _ q => q
    intro v h' tk hY st' kk' _
    obtain ⟨T, ux, uy, rfl, hT, hux, huy, it⟩ := hY
    obtain ⟨x', hx', rx⟩ := p1 i ux hux
    obtain ⟨y', hy', ry⟩ := p2 i uy huy
    rw [hx] at hx'
    rw [hy] at hy'
    cases hx'
    cases hy'
    have new : ObjOk X.prog X.w (upd H T (.tup [x, y])) h' T (.tup [x, y]) := ⟨by show 2 ≤ sizeLine; decide, [ux, uy], .cons rx (.cons ry .nil), it⟩
    have I1 : Inv X pins σ (upd H T (.tup [x, y])) { s with heap := h', toks := tk } :=
      I.turnedNew (t' := tk) (ch := [z, TI, TO, i1, i2]) (fun c o hb q => kk' c o (fun q' => hb (by simp at q' ⊢; rcases q' with q | q | q | q <;> simp [q])) q) hf hT new
    obtain ⟨g1, g2, g3, g4, g5⟩ := st'
    refine ⟨.ref T, _, I1, rfl, ⟨T, x, y, rfl, I.hok.fresh hT, rfl, fun l hl => by rw [Side.inj I hl hqx]; exact hx, fun l hl => by rw [Side.inj I hl hqy]; exact hy⟩, ⟨g1, g2, g3, f1 _ _ g4, f2 _ _ g5⟩, fun c hcm => ?_⟩
    rw [upd_ne (Nat.ne_of_lt (Nat.lt_of_lt_of_le (fpl c hcm) hT))]
    exact (hf c hcm).1
  done := by
    intro X hP hw hK hc i pins s σ H E I hf st hg
    subst hP hw hK
    obtain ⟨hz, hTI, hTO, h1, h2⟩ := st
    obtain ⟨xs, ys, hqx, hqy, he⟩ := hg
    obtain ⟨m1, P1, S1, D1, s1, e1, p1, f1⟩ := Side.draws I hc hqx h1 n1
    obtain ⟨m2, P2, S2, D2, s2, e2, p2, f2⟩ := Side.draws I hc hqy h2 n2
    have W := GoesN.zip2 (elts := elts) (x1 := kk) (pos := tpos) D D1 D2
    have he' : i = min m1 m2 := by rw [e1, e2]; exact he
    subst he'
    exact W.stops s (fun s1 => Inv X pins σ H s1) E ⟨hz, hTI, hTO, s1, s2⟩ fun h' tk k _ => I.turnedL (t' := tk) (ch := [z, TI, TO, i1, i2]) (fun c o hb q => k c o (fun q' => hb (by simp at q' ⊢; rcases q' with q | q | q | q <;> simp [q])) q) hf
  self := fun A i s Q E st h => wpAny_pyIter_zip st.1 h
def iZipS (K : PySem.W.Frag) (ta : TA) : TI := fun σ H R => ta σ H fun vs H1 => ∃ (v1 v2 : V) (a b : Side) (xs ys : List V), vs = [v1, v2] ∧ a.Rv v1 ∧ b.Rv v2 ∧ a.Is K H1 xs ∧ b.Is K H1 ys ∧ R (ItZ K a b) H1
theorem pi_zipS {X : Cx} {e e2 : Expr} {ta : TA} {p pos tpos : Pos} {elts : List Expr} {kk : Nat} (hg : Gl X "zip") (hm : X.mg "zip" = none) (ha : PA X [e, e2] ta)
    (hs : starEach [e, e2] X.env = (false, eval e X.env) :: starEach [e2] X.env := by rfl) (hpl : (backTo pos (starEach [e2] X.env)).any (·.1) = false := by rfl) :
    PI X (.Tuple elts kk tpos) (.Call (.Name "zip" p) [e, e2] [] pos) (iZipS X.K ta) := by
  refine ⟨fun pins s σ H R I h => ?_⟩
  refine Call_ (ld_blt I hg hm PyProof.Rows.boot_zip (PyProof.Rows.callWith_type1 (thn (ha.run pos pins s σ H _ I h) fun us s1 ⟨vs, H1, I1, r1, q1⟩ => ?_) hs hpl))
  obtain ⟨v1, v2, a, b, xs, ys, ex, a1, b1, hx, hy, q⟩ := q1
  subst ex
  obtain ⟨u1, u2, rfl, ru1, ru2⟩ := vals2 r1
  obtain ⟨o1, G1, B1, g1, l1, w1⟩ := Side.begins I1 hx a1 ru1
  obtain ⟨o2, G2, B2, g2, l2, w2⟩ := Side.begins I1 hy b1 ru2
  have fresh5 : ∀ c, c ∈ [s1.heap.objs.size + 4, s1.heap.objs.size + 2, s1.heap.objs.size + 3, s1.heap.objs.size, s1.heap.objs.size + 1] → FpOk X pins H1 c := fun c hcm => by
    have e' : c = s1.heap.objs.size + 4 ∨ c = s1.heap.objs.size + 2 ∨ c = s1.heap.objs.size + 3 ∨ c = s1.heap.objs.size ∨ c = s1.heap.objs.size + 1 := by simpa using hcm
    have hle : s1.heap.objs.size ≤ c := by
      rcases e' with z | z | z | z | z
      · rw [z]; exact Nat.le_add_right _ _
      · rw [z]; exact Nat.le_add_right _ _
      · rw [z]; exact Nat.le_add_right _ _
      · rw [z]; exact Nat.le_refl _
      · rw [z]; exact Nat.le_add_right _ _
    exact I1.fpOk hle (I1.hok.fresh hle)
  refine zip_begins2 B1 B2 g1 g2 fun h' hz hTI hTO e1 e2 hsz hk => wpAny_pyIter_zip hz ?_
  have I2 : Inv X pins σ H1 { s1 with heap := h' } := I1.kept (t' := s1.toks) hk
  refine ⟨s1.heap.objs.size + 4, [s1.heap.objs.size + 4, s1.heap.objs.size + 2, s1.heap.objs.size + 3, s1.heap.objs.size, s1.heap.objs.size + 1], _, _, H1, rfl, I2, turn_Z (zip_sep2 l1 l2) (fun c hcm => Nat.ne_of_lt (l1 c hcm)) (fun c hcm => Nat.ne_of_lt (Nat.lt_succ_of_lt (l2 c hcm))), ⟨hz, hTI, ⟨_, _, hTO⟩, w1 _ _ e1, w2 _ _ e2⟩, fresh5, q⟩

/-! ### enumerate -/
def ItE (K : PySem.W.Frag) (a : Side) : It :=
  ⟨fun i H => ∃ (xs : List V) (x : V), a.Is K H xs ∧ xs[i]? = some x, fun i H v H' => ∃ T x, v = .ref T ∧ H T = none ∧ H' = upd H T (.tup [.int ((0 : Int) + (i : Int)), x]) ∧ ∀ xs, a.Is K H xs → xs[i]? = some x,
    fun i H => ∃ xs : List V, a.Is K H xs ∧ xs.length = i⟩
theorem turn_E {P : Program} {w : World} {K : PySem.W.Frag} {elts : List Expr} {kk : Nat} {tpos : Pos} {a : Side} {e it : Addr} (hei : e ≠ it) (hef : e ∉ it :: a.fp) (n1 : ∀ c ∈ a.fp, c ≠ it) :
    Turn P w K (.Tuple elts kk tpos) (ItE K a) [e, it] e (fun i h => (∃ old, IsEnum h e it ((0 : Int) + (i : Int)) old) ∧ a.at it i h) where
  mem := by simp
  obj := fun i h st b hb => by
    obtain ⟨⟨old, he⟩, h1⟩ := st
    have e' : b = e ∨ b = it := by simpa using hb
    rcases e' with z | z
    · rw [z]; exact ⟨_, he, fun v q => nomatch q⟩
    · rw [z]; exact Side.look h1
  keep := fun i h h' st k => let ⟨⟨old, he⟩, hi⟩ := st; ⟨⟨old, k e (by simp) _ he⟩, Side.keep hi fun o q => k it (by simp) o q⟩
  item := by
    intro X hP hw hK hc i pins s σ H E I hf st hg
    subst hP hw hK
    obtain ⟨he, h1⟩ := st
    obtain ⟨xs, x, hqx, hx⟩ := hg
    obtain ⟨m1, P1, S1, D1, s1, e1, p1, f1⟩ := Side.draws I hc hqx h1 n1
    have lx : i < m1 := by rw [e1]; exact (List.getElem?_eq_some_iff.mp hx).1
    have fpl : ∀ c, c ∈ [e, it] → c < s.heap.objs.size := fun c hcm => by
      obtain ⟨old, he⟩ := he
      have e' : c = e ∨ c = it := by simpa using hcm
      rcases e' with q | q
      · rw [q]; exact Heap.lt_size he
      · rw [q]; obtain ⟨_, e1, _⟩ := Side.look h1; exact Heap.lt_size e1
    have W := GoesN.enumFrom (elts := elts) (x1 := kk) (pos := tpos) 0 D1 e hei hef List.mem_cons_self
    refine wpAny_mono (W.goes i s (fun v s2 => ∃ x' H', Inv X pins σ H' s2 ∧ RelV x' v ∧ (ItE X.K a).yld i H x' H' ∧ ((∃ old, IsEnum s2.heap e it ((0 : Int) + ((i + 1 : Nat) : Int)) old) ∧ a.at it (i + 1) s2.heap) ∧ ∀ c ∈ [e, it], H' c = none) E lx ⟨he, s1⟩ ?_) (fun r t q => q) fun _ _ q => q
    intro v h' tk hY st' kk' _
    obtain ⟨T, t, ux, rfl, hT, hux, itp⟩ := hY
    obtain ⟨x', hx', rx⟩ := p1 i ux hux
    rw [hx] at hx'
    cases hx'
    have new : ObjOk X.prog X.w (upd H T (.tup [.int ((0 : Int) + (i : Int)), x])) h' T (.tup [.int ((0 : Int) + (i : Int)), x]) := ⟨by show 2 ≤ sizeLine; decide, [.int ((0 : Int) + (i : Int)) t, ux], .cons ⟨t, rfl⟩ (.cons rx .nil), itp⟩
    have I1 : Inv X pins σ (upd H T (.tup [.int ((0 : Int) + (i : Int)), x])) { s with heap := h', toks := tk } := I.turnedNew (t' := tk) (ch := [e, it]) (fun c o hb q => kk' c o hb q) hf hT new
    obtain ⟨g1, g2⟩ := st'
    refine ⟨.ref T, _, I1, rfl, ⟨T, x, rfl, I.hok.fresh hT, rfl, fun l hl => by rw [Side.inj I hl hqx]; exact hx⟩, ⟨g1, f1 _ _ g2⟩, fun c hcm => ?_⟩
    rw [upd_ne (Nat.ne_of_lt (Nat.lt_of_lt_of_le (fpl c hcm) hT))]
    exact (hf c hcm).1
  done := by
    intro X hP hw hK hc i pins s σ H E I hf st hg
    subst hP hw hK
    obtain ⟨he, h1⟩ := st
    obtain ⟨xs, hqx, hi⟩ := hg
    obtain ⟨m1, P1, S1, D1, s1, e1, p1, f1⟩ := Side.draws I hc hqx h1 n1
    have W := GoesN.enumFrom (elts := elts) (x1 := kk) (pos := tpos) 0 D1 e hei hef List.mem_cons_self
    have he' : i = m1 := by rw [e1]; exact hi.symm
    subst he'
    exact W.stops s (fun s1 => Inv X pins σ H s1) E ⟨he, s1⟩ fun h' tk k _ => I.turnedL (t' := tk) (ch := [e, it]) (fun c o hb q => k c o hb q) hf
  self := fun A i s Q E st h => let ⟨⟨_, he⟩, _⟩ := st; wpAny_pyIter_enum he h
end DL
set_option maxHeartbeats 1000000
/-! D13: what is walked: lists, tuples, texts; zip, enumerate; isinstance; list(range(..)); methods of texts; bit_length. -/
namespace DL
open PySem PySem.Spec
open PyProof.Rows hiding St
open L2

theorem meets_enum1 {u : Value} {ob : Obj} {G : Heap → Prop} (bg : Begins u ob G) : Meets (Builtin.«enumerate.__new__» ⟨[.type "enumerate", u], []⟩) (fun _ R s => G s.heap ∧
    R (.ok (.ret (.ref (s.heap.push ob).objs.size))) { s with heap := (s.heap.push ob).push { cls := .type "enumerate", data := .fields #[.none, .bool false, .ref s.heap.objs.size, .int 0 0, .none, .none] } }) := by
  refine .of_wp fun P w A R ⟨hp, g, dr, tk, os⟩ ⟨hG, fin⟩ => ?_
  have isSub := sub_enumerate
  have begun : ∀ {A2 : Around} {E2 Q2 : Value → Shared → Prop}, Q2 (.ref hp.objs.size) ⟨hp.push ob, g, dr, tk, os⟩ → wpAny (model P w) A2 (pyIter u) Q2 E2 ⟨hp, g, dr, tk, os⟩ :=
    fun {A2 E2 Q2} q => bg.iter P w A2 E2 ⟨hp, g, dr, tk, os⟩ Q2 hG q
  wp_walk using begun
  refine wpAny_stack_any fun stk => wpAny_pure ?_
  split
  · rename_i cc _ _ _ _ _
    cases (cc == Value.type "enumerate") <;> (wp_walk using begun; exact ⟨_, rfl, fin⟩)
  · wp_walk using begun
    exact ⟨_, rfl, fin⟩
theorem call_enum1 {P : Program} {w : World} {A : Around} {E Q : Value → Shared → Prop} {s : Shared} {u : Value} {ob : Obj} {G : Heap → Prop} (bg : Begins u ob G) (hG : G s.heap)
    (h : ∀ h', IsEnum h' (s.heap.objs.size + 1) s.heap.objs.size 0 .none → h'.get? s.heap.objs.size = some ob → (∀ b o, s.heap.get? b = some o → h'.get? b = some o) → Q (.ref (s.heap.objs.size + 1)) { s with heap := h' }) :
    wpAny (model P w) A (call (.type "enumerate") [u]) Q E s := by
  refine callType_new PySem.F.called_enumerate (by decide) (PySem.F.typeCall_enumerate_1 _) (PySem.F.newCall_enumerate_1 _) (fun obj => PySem.F.args_object_init_2 obj _) PySem.F.entry_enumerate_new (meets_enum1 bg) ⟨hG, ?_⟩
  have z : (s.heap.push ob).objs.size = s.heap.objs.size + 1 := Heap.size_push ..
  have new := Heap.get?_push_size (s.heap.push ob) (o := { cls := .type "enumerate", data := .fields #[.none, .bool false, .ref s.heap.objs.size, .int 0 0, .none, .none] }) rfl
  rw [z] at new
  show _ ∧ _
  rw [z]
  exact ⟨⟨_, new, rfl⟩, h _ new (Heap.get?_push_of_some _ (Heap.get?_push_size _ bg.free)) fun b o e => Heap.get?_push_of_some _ (Heap.get?_push_of_some _ e)⟩
theorem pi_enumS {X : Cx} {e : Expr} {tE : TE} {p pos tpos : Pos} {elts : List Expr} {kk : Nat} (hg : Gl X "enumerate") (hm : X.mg "enumerate" = none) (he : PE X e tE) (hs : starEach [e] X.env = [(false, eval e X.env)] := by rfl) :
    PI X (.Tuple elts kk tpos) (.Call (.Name "enumerate" p) [e] [] pos) (fun σ H R => tE σ H fun v H1 => ∃ (a : Side) (xs : List V), a.Rv v ∧ a.Is X.K H1 xs ∧ R (ItE X.K a) H1) := by
  refine ⟨fun pins s σ H R I h => ?_⟩
  refine Call_ (ld_blt I hg hm boot_enumerate (PyProof.Rows.callWith_type1 (args_cons (thn (he.run pins s σ H _ I h) fun u s1 ⟨v, H1, I1, r1, q1⟩ => args_nil ?_) hs) hs rfl))
  obtain ⟨a, xs, a1, hx, q⟩ := q1
  obtain ⟨o1, G1, B1, g1, l1, w1⟩ := Side.begins I1 hx a1 r1
  refine call_enum1 B1 g1 fun h' en e1 hk => wpAny_pyIter_enum en ?_
  have I2 : Inv X pins σ H1 { s1 with heap := h' } := I1.kept (t' := s1.toks) hk
  refine ⟨s1.heap.objs.size + 1, [s1.heap.objs.size + 1, s1.heap.objs.size], _, _, H1, rfl, I2, turn_E (Nat.succ_ne_self _) (fun z => ?_) (fun c hcm => Nat.ne_of_lt (l1 c hcm)), ⟨⟨_, en⟩, w1 _ _ e1⟩, fun c hcm => ?_, q⟩
  · rcases List.mem_cons.mp z with z | z
    · exact Nat.succ_ne_self _ z
    · exact absurd (l1 _ z) (Nat.not_lt_of_le (Nat.le_succ _))
  · have hle : s1.heap.objs.size ≤ c := by
      rcases List.mem_cons.mp hcm with z | z
      · rw [z]; exact Nat.le_succ _
      · rw [List.mem_singleton.mp z]; exact Nat.le_refl _
    exact I1.fpOk hle (I1.hok.fresh hle)

section
variable {K : PySem.W.Frag} {dk : Dk} {U B B' : Addr → Prop} {H H' : Hp}
def sideOf : PyData → Option (List PyData)
  | .list xs => some xs
  | .tuple xs => some xs
  | .str y => some (signD y)
  | _ => none
theorem signs_rep (y : Str) : RepPs K B H (signV y) (signD y) := by
  unfold signV signD
  induction y.cps.toList with
  | nil => exact .nil
  | cons c r ih => exact .cons (.str _ (by rw [sizeLine_eq]; show (1 : Nat) ≤ _; decide)) ih
/-- what is walked stands for the list xs, and goes on to do so -/
structure SideOk (K : PySem.W.Frag) (U B : Addr → Prop) (H : Hp) (v : V) (sd : Side) (xs : List PyData) : Prop where
  rv : sd.Rv v
  len : xs.length ≤ sizeLine
  at_ : ∀ (U2 B2 : Addr → Prop) (H2 : Hp), Step U B H U2 B2 H2 → ∃ vs, sd.Is K H2 vs ∧ RepPs K B2 H2 vs xs
theorem side_ok {dk : Dk} (hU : ∀ a, U a → B a) {x : V} {d : PyData} {xs : List PyData} (r : RepV K dk B H x (.d d)) (h : sideOf d = some xs) : ∃ sd, SideOk K U B H x sd xs := by
  cases d with
  | list ys =>
    cases h
    obtain ⟨p, vs, rfl, hs, nb, rp, hl⟩ := repLst r
    exact ⟨.l p, rfl, by rw [← rp.length]; exact hl, fun U2 B2 H2 st => ⟨vs, .inl (.inl (st.keep _ _ hs (fun z => nb (hU _ z)) fun _ z => nomatch z)), RepPs.step st hU rp⟩⟩
  | tuple ys =>
    cases h
    obtain ⟨p, vs, rfl, hs, rp, hl⟩ := repTup r
    refine ⟨.t p, rfl, by rw [← rp.length]; exact hl, fun U2 B2 H2 st => ?_⟩
    obtain ⟨p', vs', e, hs', rp', _⟩ := repTup (r.step st hU)
    cases e
    exact ⟨vs', hs', rp'⟩
  | str y =>
    cases h
    obtain ⟨rfl, hl⟩ := repStr r
    exact ⟨.x y, rfl, by unfold signD; rw [List.length_map, Array.length_toList]; exact hl, fun U2 B2 H2 st => ⟨signV y, rfl, signs_rep y⟩⟩
  | _ => cases h
end

/-! ### walks -/
def zipD (xs ys : List PyData) : List PyData := List.zipWith (fun a b => .tuple [a, b]) xs ys
def enumD (xs : List PyData) : List PyData := xs.zipIdx.map fun p => .tuple [.int (p.2 : Int), p.1]
def dSide (t : DTE) : DTI := fun ρ Q E => t ρ (fun v ρ' => match v with
  | .d x => match sideOf x with
    | some xs => Q xs ρ'
    | none => False
  | _ => False) E
def dZip (t u : DTE) : DTI := fun ρ Q E => t ρ (fun v ρ1 => u ρ1 (fun w ρ2 => match v, w with
  | .d x, .d y => match sideOf x, sideOf y with
    | some xs, some ys => Q (zipD xs ys) ρ2
    | _, _ => False
  | _, _ => False) E) E
def dEnum (t : DTE) : DTI := fun ρ Q E => t ρ (fun v ρ' => match v with
  | .d x => match sideOf x with
    | some xs => Q (enumD xs) ρ'
    | none => False
  | _ => False) E
section
variable {K : PySem.W.Frag} {U B : Addr → Prop} {H : Hp}
theorem it_zip {v w : V} {a b : Side} {xs ys : List PyData} (ha : SideOk K U B H v a xs) (hb : SideOk K U B H w b ys) : ItOk K U B H (ItZ K a b) (zipD xs ys) := fun U2 B2 H2 st ht i => by
  obtain ⟨vs, h1, r1⟩ := ha.at_ _ _ _ st
  obtain ⟨ws, h2, r2⟩ := hb.at_ _ _ _ st
  unfold zipD
  refine ⟨fun z hz => ?_, fun hi => ⟨vs, ws, h1, h2, by rw [← hi, List.length_zipWith, r1.length, r2.length]⟩⟩
  rw [List.getElem?_zipWith] at hz
  cases e1 : xs[i]? with
  | none => rw [e1] at hz; cases hz
  | some x =>
    cases e2 : ys[i]? with
    | none => rw [e1, e2] at hz; cases hz
    | some y =>
      rw [e1, e2] at hz
      cases hz
      obtain ⟨u, hu, ru⟩ := r1.get i e1
      obtain ⟨u2, hu2, ru2⟩ := r2.get i e2
      refine ⟨⟨vs, ws, u, u2, h1, h2, hu, hu2⟩, fun q H3 hy => ?_⟩
      obtain ⟨T, a1, b1, rfl, hT, rfl, f1, f2⟩ := hy
      have e3 := f1 vs h1
      have e4 := f2 ws h2
      rw [hu] at e3
      rw [hu2] at e4
      cases e3
      cases e4
      have g : Grow H2 (upd H2 T (.tup [u, u2])) := Grow.upd hT
      refine ⟨g, .tuple upd_same (fun z => ht T z hT) (by rw [sizeLine_eq]; show (2 : Nat) ≤ _; decide) ?_⟩
      have st2 : Step (fun _ => False) B2 H2 (fun _ => False) B2 (upd H2 T (.tup [u, u2])) := ⟨fun a o h _ _ => g a o h, fun a h => by
        cases e : H2 a with
        | none => exact absurd e h
        | some o => rw [g a o e]; simp, fun _ h _ _ => h, fun _ h => .inl h, fun _ h => .inl h⟩
      exact .cons (RepP.step st2 (fun _ z => z.elim) ru) (.cons (RepP.step st2 (fun _ z => z.elim) ru2) .nil)
theorem it_enum {v : V} {a : Side} {xs : List PyData} (ha : SideOk K U B H v a xs) : ItOk K U B H (ItE K a) (enumD xs) := fun U2 B2 H2 st ht i => by
  obtain ⟨vs, h1, r1⟩ := ha.at_ _ _ _ st
  unfold enumD
  refine ⟨fun z hz => ?_, fun hi => ⟨vs, h1, by rw [List.length_map, List.length_zipIdx] at hi; rw [r1.length]; exact hi⟩⟩
  rw [List.getElem?_map, List.getElem?_zipIdx] at hz
  cases e1 : xs[i]? with
  | none => rw [e1] at hz; cases hz
  | some x =>
    rw [e1] at hz
    cases hz
    obtain ⟨u, hu, ru⟩ := r1.get i e1
    refine ⟨⟨vs, u, h1, hu⟩, fun q H3 hy => ?_⟩
    obtain ⟨T, a1, rfl, hT, rfl, f1⟩ := hy
    have e3 := f1 vs h1
    rw [hu] at e3
    cases e3
    have g : Grow H2 (upd H2 T (.tup [.int ((0 : Int) + (i : Int)), u])) := Grow.upd hT
    refine ⟨g, .tuple upd_same (fun z => ht T z hT) (by rw [sizeLine_eq]; show (2 : Nat) ≤ _; decide) ?_⟩
    have st2 : Step (fun _ => False) B2 H2 (fun _ => False) B2 (upd H2 T (.tup [.int ((0 : Int) + (i : Int)), u])) := ⟨fun a o h _ _ => g a o h, fun a h => by
      cases e : H2 a with
      | none => exact absurd e h
      | some o => rw [g a o e]; simp, fun _ h _ _ => h, fun _ h => .inl h, fun _ h => .inl h⟩
    refine .cons ?_ (.cons (RepP.step st2 (fun _ z => z.elim) ru) .nil)
    have e5 : ((0 + i : Nat) : Int) = (0 : Int) + (i : Int) := by omega
    show RepP K B2 _ (.int ((0 : Int) + (i : Int))) (.int ((0 + i : Nat) : Int))
    rw [e5]
    exact .int _
theorem it_str {y : Str} : ItOk K U B H (Its y) (signD y) := fun U2 B2 H2 st ht i => by
  unfold signD
  refine ⟨fun z hz => ?_, fun hi => ?_⟩
  · rw [List.getElem?_map, Array.getElem?_toList] at hz
    cases e : y.cps[i]? with
    | none => rw [e] at hz; cases hz
    | some c =>
      rw [e] at hz
      cases hz
      refine ⟨?_, fun q H3 hy => ?_⟩
      · obtain ⟨hl, _⟩ := Array.getElem?_eq_some_iff.mp e
        exact hl
      · obtain ⟨rfl, c', hc, rfl⟩ := hy
        rw [e] at hc
        cases hc
        exact ⟨Grow.refl _, .str _ (by rw [sizeLine_eq]; show (1 : Nat) ≤ _; decide)⟩
  · show y.cps.size ≤ i
    rw [← hi, List.length_map, Array.length_toList]
    exact Nat.le_refl _
theorem it_side {dk : Dk} (hU : ∀ a, U a → B a) {x : V} {d : PyData} {xs : List PyData} (r : RepV K dk B H x (.d d)) (h : sideOf d = some xs) : xs.length ≤ sizeLine ∧
    ((∃ y, x = .str y ∧ ItOk K U B H (Its y) xs) ∨ (∃ a, x = .ref a ∧ (((∃ vs, SqL K H a vs) ∧ ItOk K U B H (Itl K a) xs) ∨ ((∃ vs, SqT K H a vs) ∧ ItOk K U B H (Itt K a) xs)))) := by
  obtain ⟨sd, so⟩ := side_ok hU r h
  refine ⟨so.len, ?_⟩
  cases d with
  | list ys =>
    cases h
    obtain ⟨p, vs, rfl, hs, nb, rp, hl⟩ := repLst r
    exact .inr ⟨p, rfl, .inl ⟨⟨vs, .inl (.inl hs)⟩, it_list hU hs nb rp⟩⟩
  | tuple ys =>
    cases h
    obtain ⟨p, vs, rfl, hs, io⟩ := it_tup hU r
    exact .inr ⟨p, rfl, .inr ⟨⟨vs, hs⟩, io⟩⟩
  | str y =>
    cases h
    obtain ⟨rfl, hl⟩ := repStr r
    exact .inl ⟨y, rfl, it_str⟩
  | _ => cases h
end
section
variable {X : Cx} {dk : Dk} {W : WX} {e f tg : Expr} {t u : DTE} {pos p tpos : Pos} {elts : List Expr} {kk : Nat}
theorem monoSide (m : MonoE t) : MonoI (dSide t) := fun ρ Q Q' E E' hQ hE q => m ρ _ _ _ _ (fun v ρ' q => by
  cases v with
  | deck => exact q
  | d y =>
    show match sideOf y with
      | some xs => Q' xs ρ'
      | none => False
    have q : match sideOf y with
      | some xs => Q xs ρ'
      | none => False := q
    cases h : sideOf y with
    | none => rw [h] at q; exact q
    | some xs => rw [h] at q; exact hQ _ _ q) hE q
theorem monoEnum (m : MonoE t) : MonoI (dEnum t) := fun ρ Q Q' E E' hQ hE q => m ρ _ _ _ _ (fun v ρ' q => by
  cases v with
  | deck => exact q
  | d y =>
    show match sideOf y with
      | some xs => Q' (enumD xs) ρ'
      | none => False
    have q : match sideOf y with
      | some xs => Q (enumD xs) ρ'
      | none => False := q
    cases h : sideOf y with
    | none => rw [h] at q; exact q
    | some xs => rw [h] at q; exact hQ _ _ q) hE q
theorem monoZip (m : MonoE t) (n : MonoE u) : MonoI (dZip t u) := fun ρ Q Q' E E' hQ hE q => m ρ _ _ _ _ (fun v ρ' q => n ρ' _ _ _ _ (fun w ρ2 q => by
  cases v with
  | deck => exact q
  | d x =>
    cases w with
    | deck => exact q
    | d y =>
      show match sideOf x, sideOf y with
        | some xs, some ys => Q' (zipD xs ys) ρ2
        | _, _ => False
      have q : match sideOf x, sideOf y with
        | some xs, some ys => Q (zipD xs ys) ρ2
        | _, _ => False := q
      cases h : sideOf x with
      | none => rw [h] at q; exact q
      | some xs =>
        cases h2 : sideOf y with
        | none => rw [h, h2] at q; exact q
        | some ys => rw [h, h2] at q; exact hQ _ _ q) hE q) hE q
/-- what is walked is a text, a list or a tuple, as it comes -/
theorem pi_any {tl : TE} (hl : PE X e tl) : PI X tg e (fun σ H R => tl σ H fun x H1 => (∃ y, x = .str y ∧ R (Its y) H1) ∨ (∃ a, x = .ref a ∧ (((∃ xs, SqL X.K H1 a xs) ∧ R (Itl X.K a) H1) ∨ ((∃ xs, SqT X.K H1 a xs) ∧ R (Itt X.K a) H1)))) :=
  ⟨fun pins s σ H R I h => thn (hl.run pins s σ H _ I h) fun v s1 ⟨x, H1, J, rx, q⟩ => by
  have grown : ∀ (ob : Obj) (b : Addr) (u : Obj), s1.heap.get? b = some u → (s1.heap.push ob).get? b = some u := fun ob b u z => Heap.get?_push_of_some _ z
  have free : FpOk X pins H1 s1.heap.objs.size := J.fpOk (Nat.le_refl _) (J.hok.fresh (Nat.le_refl _))
  have only : ∀ b ∈ [s1.heap.objs.size], FpOk X pins H1 b := fun b hb => List.mem_singleton.mp hb ▸ free
  rcases q with ⟨y, rfl, q⟩ | ⟨a, rfl, ⟨⟨xs, sq⟩, q⟩ | ⟨⟨xs, sq⟩, q⟩⟩
  · obtain ⟨t, rfl⟩ := rx
    cases ha : y.cps.all (· < 128)
    · exact wpAny_pyIter_wide ha ⟨_, [s1.heap.objs.size], _, _, H1, rfl, J.kept (t' := s1.toks) (grown _), turn_str _ y t "str_iterator" (.inr rfl), ⟨_, Heap.get?_push_size _ rfl, rfl, rfl⟩, only, q⟩
    · exact wpAny_pyIter_ascii ha ⟨_, [s1.heap.objs.size], _, _, H1, rfl, J.kept (t' := s1.toks) (grown _), turn_str _ y t "str_ascii_iterator" (.inl rfl), ⟨_, Heap.get?_push_size _ rfl, rfl, rfl⟩, only, q⟩
  · cases rx
    obtain ⟨its, rv, p, _⟩ := J.list sq
    exact wpAny_pyIter_list p.isList ⟨_, [s1.heap.objs.size], _, _, H1, rfl, J.kept (t' := s1.toks) (grown _), turn_list a _, ⟨_, Heap.get?_push_size _ rfl, rfl, rfl⟩, only, q⟩
  · cases rx
    obtain ⟨its, rv, p, _⟩ := J.tuple sq
    exact wpAny_pyIter_tuple (show s1.heap.IsTuple a its.toArray from p) ⟨_, [s1.heap.objs.size], _, _, H1, rfl, J.kept (t' := s1.toks) (grown _), turn_tuple a _, ⟨_, Heap.get?_push_size _ rfl, rfl, rfl⟩, only, q⟩⟩
theorem di_side (h : DE X dk W e t) : DI X dk W tg e (dSide t) :=
  ⟨PI.imp (pi_any h.pe) fun σ H R ⟨B, ρ, r, q⟩ => bindE h.mono r q (fun _ _ _ z => z) fun v ρ1 x B1 H1 p l s rv => by
      cases v with
      | deck => exact p.elim
      | d y =>
        have p : match sideOf y with
          | some xs => okI X.K dk R B H σ ρ xs ρ1
          | none => False := p
        cases h2 : sideOf y with
        | none => rw [h2] at p; exact p.elim
        | some xs =>
          rw [h2] at p
          obtain ⟨hl, io⟩ := it_side l.UB rv h2
          rcases io with ⟨z, rfl, io⟩ | ⟨a, rfl, ⟨sq, io⟩ | ⟨sq, io⟩⟩
          · exact .inl ⟨z, rfl, p B1 H1 _ l s io hl⟩
          · exact .inr ⟨a, rfl, .inl ⟨sq, p B1 H1 _ l s io hl⟩⟩
          · exact .inr ⟨a, rfl, .inr ⟨sq, p B1 H1 _ l s io hl⟩⟩, monoSide h.mono⟩
theorem SideOk.step {K : PySem.W.Frag} {U B U' B' : Addr → Prop} {H H' : Hp} {v : V} {sd : Side} {xs : List PyData} (h : SideOk K U B H v sd xs) (s : Step U B H U' B' H') : SideOk K U' B' H' v sd xs := ⟨h.rv, h.len, fun U2 B2 H2 s2 => h.at_ _ _ _ (s.trans s2)⟩
theorem di_zip (hg : Gl X "zip") (hm : X.mg "zip" = none) (h : DE X dk W e t) (k : DE X dk W f u) (hs : starEach [e, f] X.env = (false, eval e X.env) :: starEach [f] X.env := by rfl) (hs2 : starEach [f] X.env = (false, eval f X.env) :: starEach [] X.env := by rfl)
    (hpl : (backTo pos (starEach [f] X.env)).any (·.1) = false := by rfl) : DI X dk W (.Tuple elts kk tpos) (.Call (.Name "zip" p) [e, f] [] pos) (dZip t u) :=
  ⟨PI.imp (pi_zipS hg hm (pa_cons h.pe (pa_cons k.pe pa_nil hs2) hs) hs hpl) fun σ H R ⟨B, ρ, r, q⟩ => bindE h.mono r q (fun _ _ _ z => z) fun v ρ1 x B1 H1 z l s rv =>
    bindE k.mono l z (fun _ _ _ z => exE.next s z) fun w ρ2 y B2 H2 z l2 s2 rw => by
      cases v with
      | deck => exact z.elim
      | d a =>
        cases w with
        | deck => exact z.elim
        | d b =>
          have z : match sideOf a, sideOf b with
            | some xs, some ys => okI X.K dk R B H σ ρ (zipD xs ys) ρ2
            | _, _ => False := z
          cases ea : sideOf a with
          | none => rw [ea] at z; exact z.elim
          | some xs =>
            cases eb : sideOf b with
            | none => rw [ea, eb] at z; exact z.elim
            | some ys =>
              rw [ea, eb] at z
              obtain ⟨sa, oa⟩ := side_ok (U := UU dk σ ρ2) l2.UB (rv.step s2 l.UB) ea
              obtain ⟨sb, ob⟩ := side_ok (U := UU dk σ ρ2) l2.UB rw eb
              obtain ⟨vs, h1, _⟩ := oa.at_ _ _ _ Step.refl
              obtain ⟨ws, h2, _⟩ := ob.at_ _ _ _ Step.refl
              refine ⟨x, y, sa, sb, vs, ws, rfl, oa.rv, ob.rv, h1, h2, z B2 H2 _ l2 (s.trans s2) (it_zip oa ob) ?_⟩
              have := oa.len
              unfold zipD
              rw [List.length_zipWith]
              omega, monoZip h.mono k.mono⟩
theorem di_enum (hg : Gl X "enumerate") (hm : X.mg "enumerate" = none) (h : DE X dk W e t) (hs : starEach [e] X.env = [(false, eval e X.env)] := by rfl) : DI X dk W (.Tuple elts kk tpos) (.Call (.Name "enumerate" p) [e] [] pos) (dEnum t) :=
  ⟨PI.imp (pi_enumS hg hm h.pe hs) fun σ H R ⟨B, ρ, r, q⟩ => bindE h.mono r q (fun _ _ _ z => z) fun v ρ1 x B1 H1 p l s rv => by
      cases v with
      | deck => exact p.elim
      | d y =>
        have p : match sideOf y with
          | some xs => okI X.K dk R B H σ ρ (enumD xs) ρ1
          | none => False := p
        cases h2 : sideOf y with
        | none => rw [h2] at p; exact p.elim
        | some xs =>
          rw [h2] at p
          obtain ⟨sa, oa⟩ := side_ok (U := UU dk σ ρ1) l.UB rv h2
          obtain ⟨vs, h1, _⟩ := oa.at_ _ _ _ Step.refl
          refine ⟨sa, vs, oa.rv, h1, p B1 H1 _ l s (it_enum oa) ?_⟩
          unfold enumD
          rw [List.length_map, List.length_zipIdx]
          exact oa.len, monoEnum h.mono⟩
end

/-! ### isinstance -/
def isiB (T : String) : PyData → Bool
  | .bool _ => T == "bool" || T == "int"
  | .int _ => T == "int"
  | .str _ => T == "str"
  | .tuple _ => T == "tuple"
  | .list _ => T == "list"
  | .dict _ => T == "dict"
  | _ => false
def tyNm : PyData → String
  | .bool _ => "bool"
  | .int _ => "int"
  | .str _ => "str"
  | .tuple _ => "tuple"
  | .list _ => "list"
  | .dict _ => "dict"
  | _ => "NoneType"
def isiT : List String := ["bool", "int", "str", "tuple", "list", "dict"]
theorem kit_tab : ∀ T ∈ isiT, kitB "bool" T = some (T == "bool" || T == "int") ∧ kitB "int" T = some (T == "int") ∧ kitB "str" T = some (T == "str") ∧ kitB "tuple" T = some (T == "tuple") ∧ kitB "list" T = some (T == "list") ∧ kitB "dict" T = some (T == "dict") ∧ kitB "NoneType" T = some false := by decide +kernel
theorem rep_ty {K : PySem.W.Frag} {B : Addr → Prop} {H : Hp} {x : V} {d : PyData} (r : RepP K B H x d) : TyX K H x (.type (tyNm d)) := by
  cases r with
  | none => exact .base .non
  | bool b => exact .base (.bl b)
  | int i => exact .base (.int i)
  | str y => exact .base (.str y)
  | tuple h => exact .base (.tup h)
  | tupleK h => obtain ⟨o, its, n, e, c, _⟩ := h; exact .kTuple e c
  | list h => exact .base (.lst h)
  | dict h => exact .base (.dK h)
theorem rep_kit {K : PySem.W.Frag} {B : Addr → Prop} {H : Hp} {x : V} {d : PyData} (r : RepP K B H x d) {T : String} (hT : T ∈ isiT) : kitB (tyNm d) T = some (isiB T d) := by
  obtain ⟨h1, h2, h3, h4, h5, h6, h7⟩ := kit_tab T hT
  cases r <;> assumption
def dIsi (p : PyData → Bool) (t : DTE) : DTE := fun ρ Q E => t ρ (fun v ρ' => match v with
  | .d x => Q (.d (.bool (p x))) ρ'
  | _ => False) E
theorem monoIsi {p : PyData → Bool} {t : DTE} (m : MonoE t) : MonoE (dIsi p t) := fun ρ Q Q' E E' hQ hE q => m ρ _ _ _ _ (fun v ρ' q => by
  cases v with
  | deck => exact q
  | d y => exact hQ _ _ q) hE q
section
variable {X : Cx} {dk : Dk} {W : WX} {e : Expr} {t : DTE} {pos p p2 : Pos} {kk : Nat}
theorem de_isi {T : Str} {Tn : String} (hg : Gl X "isinstance") (hm : X.mg "isinstance" = none) (hg2 : Gl X T) (hm2 : X.mg T = none) (hv : bootBuiltins T = some (.type Tn)) (hT : Tn ∈ isiT) (h : DE X dk W e t) (hn : T ≠ "__name__" := by decide) (hd : (T == ("__debug__" : Str)) = false := by decide)
    (hs : starEach [e, .Name T p2] X.env = (false, eval e X.env) :: starEach [.Name T p2] X.env := by rfl) (hs2 : starEach [.Name T p2] X.env = (false, eval (.Name T p2) X.env) :: starEach [] X.env := by rfl)
    (hpl : (backTo pos (starEach [.Name T p2] X.env)).any (·.1) = false := by rfl) : DE X dk W (.Call (.Name "isinstance" p) [e, .Name T p2] [] pos) (dIsi (isiB Tn) t) :=
  ⟨PE.imp (pe_callB call_isi hg hm boot_isinstance (pa_cons h.pe (pa_cons (pe_bltn (v := .ty Tn) hg2 hm2 hv rfl hn hd) pa_nil hs2) hs) (by decide) (by decide) hs hpl) fun σ H Q ⟨B, ρ, r, q⟩ => bindE h.mono r q (fun _ _ _ z => z) fun v ρ1 x B1 H1 p l s rv => by
      cases v with
      | deck => exact p.elim
      | d y => exact ⟨x, .ty Tn, _, _, _, rfl, .ty Tn, rep_ty rv, kit_ty (rep_kit rv hT), p _ B1 H1 l s (.bool _)⟩, monoIsi h.mono⟩
end
end DL
set_option maxHeartbeats 1000000
/-! D14: len, list of dicts too; list(range(..)); str(n); methods of texts; bit_length; xs[::-1]; dict comprehensions. -/
namespace DL
open PySem PySem.Spec
open PyProof.Rows hiding St
open L2

section
variable {K : PySem.W.Frag} {dk : Dk} {B : Addr → Prop} {H : Hp}
theorem RepKs.length : ∀ {v : List (Key × V)} {d : List (PyData × PyData)}, RepKs K B H v d → v.length = d.length
  | _, _, .nil => rfl
  | _, _, .cons _ t => by simp [RepKs.length t]
theorem key_rep (k : Key) (h : ∀ x, k = .inr x → x.length ≤ sizeLine) : RepP K B H (kV k) (keyD k) := by
  cases k with
  | inl i => exact .int i
  | inr x => exact .str x (h x rfl)
def lenD : PyData → Option PyData
  | .dict xs => some (.int xs.length)
  | d => lenOf d
theorem call_lenK {X : Cx} : CallR X (.builtin "len") (fun xs H Q => ∃ p kvs, xs = [.ref p] ∧ H p = some (.dK kvs) ∧ Q (.int (kvs.length : Nat)) H) := by
  intro pins s σ H xs us Q I r h
  obtain ⟨p, kvs, rfl, hk, q⟩ := h
  obtain ⟨u, rfl, rx⟩ := vals1 r
  cases rx
  exact d_len I (.inl hk) fun t s' I' => ⟨.int kvs.length, H, I', ⟨t, rfl⟩, q⟩
theorem bui_lenD : BuiS K dk (f1 lenD) (fun xs H Q => (∃ x n, xs = [x] ∧ LenV K x H n ∧ Q (.int n) H) ∨ ∃ p kvs, xs = [.ref p] ∧ H p = some (.dK kvs) ∧ Q (.int (kvs.length : Nat)) H) := bui1 fun B H x a c Q ht rx e q => by
  cases a with
  | dict xs =>
    cases e
    obtain ⟨p, vs, rfl, hs, _, rp, hl⟩ := repDct (dk := ⟨false, 0, 0, ""⟩) rx
    exact .inr ⟨p, vs, rfl, hs, q _ H (Grow.refl H) (by rw [rp.length]; exact .int _)⟩
  | tuple xs =>
    cases e
    obtain ⟨p, vs, rfl, hs, rp, hl⟩ := repTup (dk := ⟨false, 0, 0, ""⟩) rx
    exact .inl ⟨_, _, rfl, .inr ⟨vs, hs, by rw [rp.length]⟩, q _ H (Grow.refl H) (.int _)⟩
  | list xs =>
    cases e
    obtain ⟨p, vs, rfl, hs, _, rp, hl⟩ := repLst (dk := ⟨false, 0, 0, ""⟩) rx
    exact .inl ⟨_, _, rfl, .inl ⟨vs, .inl (.inl hs), by rw [rp.length]⟩, q _ H (Grow.refl H) (.int _)⟩
  | str z =>
    cases e
    obtain ⟨rfl, hl⟩ := repStr (dk := ⟨false, 0, 0, ""⟩) rx
    exact .inl ⟨_, _, rfl, ⟨hl, rfl⟩, q _ H (Grow.refl H) (.int _)⟩
  | _ => cases e
/-- the keys of texts are short -/
def keysOk (xs : List (PyData × PyData)) : Bool := xs.all fun p => match p.1 with
  | .str x => decide (x.length ≤ sizeLine)
  | _ => true
def lstD : PyData → Option PyData
  | .dict xs => if keysOk xs = true then some (.list (xs.map (·.1))) else none
  | d => lstOf d
theorem keys_rep : ∀ {vs : List (Key × V)} {xs : List (PyData × PyData)}, RepKs K B H vs xs → keysOk xs = true → ∀ {H2 : Hp}, RepPs K B H2 (vs.map fun kv => kV kv.1) (xs.map (·.1))
  | _, _, .nil, _, _ => .nil
  | _, _, .cons (k := k) r t, e, _ => by
    unfold keysOk at e
    rw [List.all_cons, Bool.and_eq_true] at e
    refine .cons (key_rep k fun x hx => ?_) (keys_rep t e.2)
    subst hx
    exact of_decide_eq_true e.1
theorem bui_listD : BuiS K dk (f1 lstD) (fun xs H Q => (∃ p ys, xs = [.ref p] ∧ (SqL K H p ys ∨ SqT K H p ys) ∧ ∀ l, H l = none → Q (.ref l) (upd H l (.lst ys))) ∨ rListD xs H Q) := bui1 fun B H x a c Q ht rx e q => by
  cases a with
  | dict xs =>
    obtain ⟨p, vs, rfl, hs, _, rp, hl⟩ := repDct (dk := ⟨false, 0, 0, ""⟩) rx
    by_cases hk : keysOk xs = true
    · have e : (if keysOk xs = true then some (PyData.list (xs.map (·.1))) else none) = some c := e
      rw [if_pos hk] at e
      cases e
      exact .inr ⟨p, vs, rfl, hs, fun l hn => q _ _ (Grow.upd hn) (.list upd_same (fun b => ht l b hn) (by rw [List.length_map]; exact hl) (keys_rep rp hk))⟩
    · have e : (if keysOk xs = true then some (PyData.list (xs.map (·.1))) else none) = some c := e
      rw [if_neg hk] at e
      cases e
  | tuple xs =>
    refine .inl ?_
    have := (bui_list (K := K) (dk := ⟨false, 0, 0, ""⟩)).run B H [x] [.d (.tuple xs)] Q ht (.cons rx .nil)
    exact this (by cases e; exact q)
  | list xs =>
    refine .inl ?_
    have := (bui_list (K := K) (dk := ⟨false, 0, 0, ""⟩)).run B H [x] [.d (.list xs)] Q ht (.cons rx .nil)
    exact this (by cases e; exact q)
  | _ => cases e
theorem bui_strInt : BuiS K dk (f1 strOfInt) (fun xs H Q => ∃ i, xs = [.int i] ∧ i.natAbs.log2 < 1920 ∧ Q (.str (toString i)) H) := bui1 fun B H x a c Q ht rx e q => by
  cases a with
  | int i =>
    by_cases hk : i.natAbs.log2 < 1920
    · have e : (if i.natAbs.log2 < 1920 then some (PyData.str (toString i)) else none) = some c := e
      rw [if_pos hk] at e
      cases e
      cases rx
      exact ⟨i, rfl, hk, q _ H (Grow.refl H) (.str _ (int_text_fits hk))⟩
    · have e : (if i.natAbs.log2 < 1920 then some (PyData.str (toString i)) else none) = some c := e
      rw [if_neg hk] at e
      cases e
  | _ => cases e
end
/-! ### list(range(..)) -/
def dLstRg (t u : DTE) : DTE := fun ρ Q E => t ρ (fun v ρ1 => u ρ1 (fun w ρ2 => match v, w with
  | .d a, .d b => match rangeOf a b with
    | some xs => Q (.d (.list xs)) ρ2
    | none => False
  | _, _ => False) E) E
/-! ### methods of texts -/
structure Mth0 (K : PySem.W.Frag) (f : Str → Option PyData) (r : V → List V → Hp → VK → Prop) : Prop where
  run : ∀ (B : Addr → Prop) (H : Hp) (s : Str) (c : PyData) (Q : VK), (∀ a, B a → H a ≠ none) → s.length ≤ sizeLine → f s = some c → (∀ w H', Grow H H' → RepP K B H' w c → Q w H') → r (.str s) [] H Q
structure Mth1 (K : PySem.W.Frag) (f : Str → PyData → Option PyData) (r : V → List V → Hp → VK → Prop) : Prop where
  run : ∀ (B : Addr → Prop) (H : Hp) (s : Str) (y : V) (b c : PyData) (Q : VK), (∀ a, B a → H a ≠ none) → s.length ≤ sizeLine → RepP K B H y b → f s b = some c → (∀ w H', Grow H H' → RepP K B H' w c → Q w H') → r (.str s) [y] H Q
def dM0 (f : Str → Option PyData) (t : DTE) : DTE := fun ρ Q E => t ρ (fun v ρ1 => match v with
  | .d (.str s) => match f s with
    | some c => Q (.d c) ρ1
    | none => False
  | _ => False) E
def dM1 (f : Str → PyData → Option PyData) (t u : DTE) : DTE := fun ρ Q E => t ρ (fun v ρ1 => match v with
  | .d (.str s) => u ρ1 (fun w ρ2 => match w with
    | .d b => match f s b with
      | some c => Q (.d c) ρ2
      | none => False
    | _ => False) E
  | _ => False) E
theorem monoM0 {f : Str → Option PyData} {t : DTE} (m : MonoE t) : MonoE (dM0 f t) := fun ρ Q Q' E E' hQ hE q => m ρ _ _ _ _ (fun v ρ1 q => by
  cases v with
  | deck => exact q
  | d x =>
    cases x with
    | str s =>
      show match f s with
        | some c => Q' (.d c) ρ1
        | none => False
      have q : match f s with
        | some c => Q (.d c) ρ1
        | none => False := q
      cases h : f s with
      | none => rw [h] at q; exact q
      | some c => rw [h] at q; exact hQ _ _ q
    | _ => exact q) hE q
theorem monoM1 {f : Str → PyData → Option PyData} {t u : DTE} (m : MonoE t) (n : MonoE u) : MonoE (dM1 f t u) := fun ρ Q Q' E E' hQ hE q => m ρ _ _ _ _ (fun v ρ1 q => by
  cases v with
  | deck => exact q
  | d x =>
    cases x with
    | str s =>
      refine n ρ1 _ _ _ _ (fun w ρ2 q => ?_) hE q
      cases w with
      | deck => exact q
      | d b =>
        show match f s b with
          | some c => Q' (.d c) ρ2
          | none => False
        have q : match f s b with
          | some c => Q (.d c) ρ2
          | none => False := q
        cases h : f s b with
        | none => rw [h] at q; exact q
        | some c => rw [h] at q; exact hQ _ _ q
    | _ => exact q) hE q
section
variable {X : Cx} {dk : Dk} {W : WX} {e f : Expr} {t u : DTE} {pos apos p p2 pos2 : Pos}
theorem de_listRg2 (hc : X.calm = true) (hgl : Gl X "list") (hml : X.mg "list" = none) (hg : Gl X "range") (hm : X.mg "range" = none) (h : DE X dk W e t) (k : DE X dk W f u)
    (na : starEach [e, f] X.env = (false, eval e X.env) :: starEach [f] X.env := by rfl) (nb : starEach [f] X.env = (false, eval f X.env) :: starEach [] X.env := by rfl) (hp : (backTo pos2 (starEach [f] X.env)).any (·.1) = false := by rfl)
    (ns : starEach [.Call (.Name "range" p2) [e, f] [] pos2] X.env = (false, eval (.Call (.Name "range" p2) [e, f] [] pos2) X.env) :: starEach [] X.env := by rfl) :
    DE X dk W (.Call (.Name "list" p) [.Call (.Name "range" p2) [e, f] [] pos2] [] pos) (dLstRg t u) :=
  ⟨PE.imp (pe_listRg hc hgl hml (prg_2 hg hm h.pe k.pe na nb hp) ns) fun σ H Q ⟨B, ρ, r, q⟩ => bindE h.mono r q (fun _ _ _ z => z) fun v ρ1 x B1 H1 z l s rv =>
    bindE k.mono l z (fun _ _ _ z => exE.next s z) fun w ρ2 y B2 H2 z l2 s2 rw => by
      cases v with
      | deck => exact z.elim
      | d a =>
        cases w with
        | deck => exact z.elim
        | d b =>
          have z : match rangeOf a b with
            | some xs => okE X.K dk Q B H σ ρ (.d (.list xs)) ρ2
            | none => False := z
          cases a with
          | int a =>
            cases b with
            | int b =>
              obtain rfl := repInt rv
              obtain rfl := repInt rw
              by_cases hc : a.natAbs < 2 ^ 62 ∧ b.natAbs < 2 ^ 62 ∧ b - a ≤ 16777216
              · have e1 : rangeOf (.int a) (.int b) = some _ := if_pos hc
                rw [e1] at z
                refine ⟨a, b, rfl, rfl, ⟨by omega, by omega, by omega, by omega, by omega⟩, fun q hq => ?_⟩
                obtain ⟨l', s'⟩ := l2.grow (Grow.upd (o := .lst (rgV a b)) hq)
                refine z _ B2 _ l' ((s.trans s2).trans s') (.list upd_same (fun z => l2.trk _ z hq) (by rw [rgV_length, sizeLine_eq]; omega) ?_)
                generalize upd H2 q (HO.lst (rgV a b)) = H9
                unfold rgV
                generalize List.range (b - a).toNat = ks
                induction ks with
                | nil => exact .nil
                | cons k ks ih => exact .cons (.int _) ih
              · have e1 : rangeOf (.int a) (.int b) = none := if_neg hc
                rw [e1] at z
                exact z.elim
            | _ => exact z.elim
          | _ => cases b <;> exact z.elim, fun ρ Q Q' E E' hQ hE q => h.mono ρ _ _ _ _ (fun v ρ' q => k.mono _ _ _ _ _ (fun w ρ2 q => by
    cases v with
    | deck => exact q
    | d a =>
      cases w with
      | deck => exact q
      | d b =>
        have q : match rangeOf a b with
          | some xs => Q (.d (.list xs)) ρ2
          | none => False := q
        show match rangeOf a b with
          | some xs => Q' (.d (.list xs)) ρ2
          | none => False
        cases e1 : rangeOf a b with
        | none => rw [e1] at q; exact q
        | some xs => rw [e1] at q; exact hQ _ _ q) hE q) hE q⟩
theorem de_m0 {name : Str} {id : String} {g : Str → Option PyData} {r : V → List V → Hp → VK → Prop} (slot : PySem.Slot "str" name id) (ty : typeOf (.builtin id) = pure (.type "method_descriptor")) (rule : MtR X id r) (hr : Mth0 X.K g r) (ho : DE X dk W e t)
    (hbase : attributeBase e name X.env (eval e X.env) = eval e X.env := by rfl) (hline : (apos.endLine == pos.line) = true := by rfl) : DE X dk W (.Call (.Attribute e name apos) [] [] pos) (dM0 g t) :=
  ⟨PE.imp (pe_m0 slot ty rule ho.pe hbase hline) fun σ H Q ⟨B, ρ, r0, q⟩ => bindE ho.mono r0 q (fun _ _ _ z => z) fun v ρ1 x B1 H1 z l s rv => by
    cases v with
    | deck => exact z.elim
    | d d =>
      cases d with
      | str y =>
        obtain ⟨rfl, hl⟩ := repStr rv
        have z : match g y with
          | some c => okE X.K dk Q B H σ ρ (.d c) ρ1
          | none => False := z
        cases e1 : g y with
        | none => rw [e1] at z; exact z.elim
        | some c =>
          rw [e1] at z
          refine ⟨⟨y, rfl⟩, hr.run B1 H1 y c Q l.trk hl e1 fun w' H' gr rw' => ?_⟩
          obtain ⟨l', s'⟩ := l.grow gr
          exact z w' B1 H' l' (s.trans s') rw'
      | _ => exact z.elim, monoM0 ho.mono⟩
theorem de_m1 {name : Str} {id : String} {g : Str → PyData → Option PyData} {r : V → List V → Hp → VK → Prop} (slot : PySem.Slot "str" name id) (ty : typeOf (.builtin id) = pure (.type "method_descriptor")) (rule : MtR X id r) (hr : Mth1 X.K g r) (ho : DE X dk W e t) (he : DE X dk W f u)
    (hs : starEach [f] X.env = [(false, eval f X.env)] := by rfl) (hbase : attributeBase e name X.env (eval e X.env) = eval e X.env := by rfl) (hline : (apos.endLine == pos.line) = true := by rfl) : DE X dk W (.Call (.Attribute e name apos) [f] [] pos) (dM1 g t u) :=
  ⟨PE.imp (pe_m1 slot ty rule ho.pe he.pe hs hbase hline) fun σ H Q ⟨B, ρ, r0, q⟩ => bindE ho.mono r0 q (fun _ _ _ z => z) fun v ρ1 x B1 H1 z l s rv => by
    cases v with
    | deck => exact z.elim
    | d d =>
      cases d with
      | str y =>
        obtain ⟨rfl, hl⟩ := repStr rv
        refine ⟨⟨y, rfl⟩, bindE he.mono l z (fun _ _ _ z => exE.next s z) fun w ρ2 x2 B2 H2 z l2 s2 rw => ?_⟩
        cases w with
        | deck => exact z.elim
        | d b =>
          have z : match g y b with
            | some c => okE X.K dk Q B H σ ρ (.d c) ρ2
            | none => False := z
          cases e1 : g y b with
          | none => rw [e1] at z; exact z.elim
          | some c =>
            rw [e1] at z
            refine hr.run B2 H2 y x2 b c Q l2.trk hl rw e1 fun w' H' gr rw' => ?_
            obtain ⟨l', s'⟩ := l2.grow gr
            exact z w' B2 H' l' ((s.trans s2).trans s') rw'
      | _ => exact z.elim, monoM1 ho.mono he.mono⟩
end
section
variable {K : PySem.W.Frag}
def joinOf (a : Str) : PyData → Option PyData
  | .list ys => match strsOf ys with
    | some zs => if (zs.map (·.length)).sum + zs.length * a.length ≤ 16777216 ∧ (Txt.join a zs).length ≤ sizeLine then some (.str (Txt.join a zs)) else none
    | none => none
  | .tuple ys => match strsOf ys with
    | some zs => if (zs.map (·.length)).sum + zs.length * a.length ≤ 16777216 ∧ (Txt.join a zs).length ≤ sizeLine then some (.str (Txt.join a zs)) else none
    | none => none
  | _ => none
theorem mth_join : Mth1 K joinOf (fun x xs H Q => ∃ a p, ∃ ys : List Str, x = .str a ∧ xs = [.ref p] ∧ (SqL K H p (ys.map V.str) ∨ SqT K H p (ys.map V.str)) ∧
    (ys.map (·.length)).sum + ys.length * a.length ≤ 16777216 ∧ Q (.str (Txt.join a ys)) H) := ⟨fun B H s y b c Q ht hl ry e q => by
  cases b with
  | list xs =>
    obtain ⟨p, vs, rfl, hs, _, rp, _⟩ := repLst (dk := ⟨false, 0, 0, ""⟩) ry
    have e : (match strsOf xs with
      | some zs => if (zs.map (·.length)).sum + zs.length * s.length ≤ 16777216 ∧ (Txt.join s zs).length ≤ sizeLine then some (PyData.str (Txt.join s zs)) else none
      | none => none) = some c := e
    cases e2 : strsOf xs with
    | none => rw [e2] at e; cases e
    | some zs =>
      rw [e2] at e
      have e3 := rep_strs rp e2
      subst e3
      by_cases hz : (zs.map (·.length)).sum + zs.length * s.length ≤ 16777216 ∧ (Txt.join s zs).length ≤ sizeLine
      · have e : (if (zs.map (·.length)).sum + zs.length * s.length ≤ 16777216 ∧ (Txt.join s zs).length ≤ sizeLine then some (PyData.str (Txt.join s zs)) else none) = some c := e
        rw [if_pos hz] at e
        cases e
        exact ⟨s, p, zs, rfl, rfl, .inl (.inl (.inl hs)), hz.1, q _ H (Grow.refl H) (.str _ hz.2)⟩
      · have e : (if (zs.map (·.length)).sum + zs.length * s.length ≤ 16777216 ∧ (Txt.join s zs).length ≤ sizeLine then some (PyData.str (Txt.join s zs)) else none) = some c := e
        rw [if_neg hz] at e
        cases e
  | tuple xs =>
    obtain ⟨p, vs, rfl, hs, rp, _⟩ := repTup (dk := ⟨false, 0, 0, ""⟩) ry
    have e : (match strsOf xs with
      | some zs => if (zs.map (·.length)).sum + zs.length * s.length ≤ 16777216 ∧ (Txt.join s zs).length ≤ sizeLine then some (PyData.str (Txt.join s zs)) else none
      | none => none) = some c := e
    cases e2 : strsOf xs with
    | none => rw [e2] at e; cases e
    | some zs =>
      rw [e2] at e
      have e3 := rep_strs rp e2
      subst e3
      by_cases hz : (zs.map (·.length)).sum + zs.length * s.length ≤ 16777216 ∧ (Txt.join s zs).length ≤ sizeLine
      · have e : (if (zs.map (·.length)).sum + zs.length * s.length ≤ 16777216 ∧ (Txt.join s zs).length ≤ sizeLine then some (PyData.str (Txt.join s zs)) else none) = some c := e
        rw [if_pos hz] at e
        cases e
        exact ⟨s, p, zs, rfl, rfl, .inr hs, hz.1, q _ H (Grow.refl H) (.str _ hz.2)⟩
      · have e : (if (zs.map (·.length)).sum + zs.length * s.length ≤ 16777216 ∧ (Txt.join s zs).length ≤ sizeLine then some (PyData.str (Txt.join s zs)) else none) = some c := e
        rw [if_neg hz] at e
        cases e
  | _ => cases e⟩
end

/-! ### n.bit_length(), xs[::-1] -/
def bitsOf : PyData → Option PyData
  | .int i => some (.int (Builtin.Int.intBits i : Nat))
  | _ => none
def revOf : PyData → Option PyData
  | .list xs => some (.list xs.reverse)
  | _ => none
def dF1 (f : PyData → Option PyData) (t : DTE) : DTE := fun ρ Q E => t ρ (fun v ρ1 => match v with
  | .d x => match f x with
    | some c => Q (.d c) ρ1
    | none => False
  | _ => False) E
theorem monoF1 {f : PyData → Option PyData} {t : DTE} (m : MonoE t) : MonoE (dF1 f t) := fun ρ Q Q' E E' hQ hE q => m ρ _ _ _ _ (fun v ρ1 q => by
  cases v with
  | deck => exact q
  | d x =>
    show match f x with
      | some c => Q' (.d c) ρ1
      | none => False
    have q : match f x with
      | some c => Q (.d c) ρ1
      | none => False := q
    cases h : f x with
    | none => rw [h] at q; exact q
    | some c => rw [h] at q; exact hQ _ _ q) hE q
theorem RepPs.rev {K : PySem.W.Frag} {B : Addr → Prop} {H : Hp} : ∀ {v : List V} {d : List PyData}, RepPs K B H v d → RepPs K B H v.reverse d.reverse
  | _, _, .nil => .nil
  | _, _, .cons r t => by
    rw [List.reverse_cons, List.reverse_cons]
    exact (RepPs.rev t).append (.cons r .nil)
section
variable {X : Cx} {dk : Dk} {W : WX} {e f : Expr} {t u : DTE} {pos apos p1 p2 p3 : Pos} {k : Nat}
theorem f1_core {g : PyData → Option PyData} {R : V → Hp → VK → Prop} (m : MonoE t) (hr : ∀ (B : Addr → Prop) (H : Hp) (x : V) (a c : PyData) (Q : VK), (∀ a, B a → H a ≠ none) → RepP X.K B H x a → g a = some c → (∀ w H', Grow H H' → RepP X.K B H' w c → Q w H') → R x H Q)
    {σ : L2.St} {H : Hp} {Q : VK} (h : tDE X.K X.mg dk W (dF1 g t) σ H Q) : tDE X.K X.mg dk W t σ H (fun x H1 => R x H1 Q) := by
  obtain ⟨B, ρ, r0, q⟩ := h
  refine bindE m r0 q (fun _ _ _ z => z) fun v ρ1 x B1 H1 z l s rv => ?_
  cases v with
  | deck => exact z.elim
  | d d =>
    have z : match g d with
      | some c => okE X.K dk Q B H σ ρ (.d c) ρ1
      | none => False := z
    cases e1 : g d with
    | none => rw [e1] at z; exact z.elim
    | some c =>
      rw [e1] at z
      refine hr B1 H1 x d c Q l.trk rv e1 fun w' H' gr rw' => ?_
      obtain ⟨l', s'⟩ := l.grow gr
      exact z w' B1 H' l' (s.trans s') rw'
theorem de_bits (ho : DE X dk W e t) (hbase : attributeBase e "bit_length" X.env (eval e X.env) = eval e X.env := by rfl) (hline : (apos.endLine == pos.line) = true := by rfl) : DE X dk W (.Call (.Attribute e "bit_length" apos) [] [] pos) (dF1 bitsOf t) :=
  ⟨PE.imp (pe_bits ho.pe hbase hline) fun σ H Q h => f1_core (R := fun x H1 Q => ∃ i, x = .int i ∧ Q (.int (Builtin.Int.intBits i : Nat)) H1) ho.mono (fun B H x a c Q ht rx e q => by
    cases a with
    | int i => cases e; cases rx; exact ⟨i, rfl, q _ H (Grow.refl H) (.int _)⟩
    | _ => cases e) h, monoF1 ho.mono⟩
theorem de_rev (ho : DE X dk W e t) : DE X dk W (.Subscript e (.Slice none none (some (.UnaryOp .USub (.Constant (.int 1) k p1) p2)) p3) pos) (dF1 revOf t) :=
  ⟨PE.imp (pe_revL ho.pe) fun σ H Q h => f1_core (R := fun x H1 Q => ∃ a xs, x = .ref a ∧ SqL X.K H1 a xs ∧ ∀ p, H1 p = none → Q (.ref p) (upd H1 p (.lst xs.reverse))) ho.mono (fun B H x a c Q ht rx e q => by
    cases a with
    | list xs =>
      cases e
      obtain ⟨p, vs, rfl, hs, _, rp, hl⟩ := repLst (dk := dk) rx
      refine ⟨p, vs, rfl, .inl (.inl hs), fun p' hn => q _ _ (Grow.upd hn) (.list upd_same (fun b => ht _ b hn) (by rw [List.length_reverse]; exact hl) ?_)⟩
      have st2 : Step (fun _ => False) B H (fun _ => False) B (upd H p' (.lst vs.reverse)) := ⟨fun a o h _ _ => Grow.upd hn a o h, fun a h => by
        cases e : H a with
        | none => exact absurd e h
        | some o => rw [Grow.upd hn a o e]; simp, fun _ h _ _ => h, fun _ h => .inl h, fun _ h => .inl h⟩
      exact RepPs.step st2 (fun _ z => z.elim) rp.rev
    | _ => cases e) h, monoF1 ho.mono⟩
end
end DL
set_option maxHeartbeats 1000000
/-! D15: dict comprehensions. -/
namespace DL
open PySem PySem.Spec
open PyProof.Rows hiding St
open L2

def keyOf : PyData → Option Key
  | .int i => some (.inl i)
  | .str x => some (.inr x)
  | _ => none
/-- in its place, or at the end -/
def putD (kvs : List (Key × PyData)) (k : Key) (v : PyData) : List (Key × PyData) :=
  if (kvs.any fun kv => decide (kv.1 = k)) = true then kvs.map (fun kv => if kv.1 = k then (kv.1, v) else kv) else kvs ++ [(k, v)]
def dictD (kvs : List (Key × PyData)) : List (PyData × PyData) := kvs.map fun p => (keyD p.1, p.2)
section
variable {K : PySem.W.Frag} {B : Addr → Prop} {H : Hp}
inductive RepKK (K : PySem.W.Frag) (B : Addr → Prop) (H : Hp) : List (Key × V) → List (Key × PyData) → Prop
  | nil : RepKK K B H [] []
  | cons {k : Key} {v : V} {d : PyData} {vs : List (Key × V)} {ds : List (Key × PyData)} : RepP K B H v d → RepKK K B H vs ds → RepKK K B H ((k, v) :: vs) ((k, d) :: ds)
theorem RepKK.out : ∀ {vs : List (Key × V)} {xs : List (Key × PyData)}, RepKK K B H vs xs → RepKs K B H vs (dictD xs)
  | _, _, .nil => .nil
  | _, _, .cons r t => .cons r (RepKK.out t)
theorem RepKK.length : ∀ {vs : List (Key × V)} {xs : List (Key × PyData)}, RepKK K B H vs xs → vs.length = xs.length
  | _, _, .nil => rfl
  | _, _, .cons _ t => by simp [RepKK.length t]
theorem RepKK.any (k : Key) : ∀ {vs : List (Key × V)} {xs : List (Key × PyData)}, RepKK K B H vs xs → (vs.any fun kv => decide (kv.1 = k)) = (xs.any fun kv => decide (kv.1 = k))
  | _, _, .nil => rfl
  | _, _, .cons _ t => by rw [List.any_cons, List.any_cons, RepKK.any k t]
theorem RepKK.map (k : Key) {v : V} {d : PyData} (r : RepP K B H v d) : ∀ {vs : List (Key × V)} {xs : List (Key × PyData)}, RepKK K B H vs xs →
    RepKK K B H (vs.map fun kv => if kv.1 = k then (kv.1, v) else kv) (xs.map fun kv => if kv.1 = k then (kv.1, d) else kv)
  | _, _, .nil => .nil
  | _, _, .cons (k := j) r1 t => by
    rw [List.map_cons, List.map_cons]
    by_cases e : j = k
    · rw [if_pos e, if_pos e]
      exact .cons r (RepKK.map k r t)
    · rw [if_neg e, if_neg e]
      exact .cons r1 (RepKK.map k r t)
theorem RepKK.append : ∀ {vs : List (Key × V)} {xs : List (Key × PyData)} {vs' : List (Key × V)} {xs' : List (Key × PyData)}, RepKK K B H vs xs → RepKK K B H vs' xs' → RepKK K B H (vs ++ vs') (xs ++ xs')
  | _, _, _, _, .nil, s => s
  | _, _, _, _, .cons r t, s => .cons r (RepKK.append t s)
theorem RepKK.put {vs : List (Key × V)} {xs : List (Key × PyData)} (h : RepKK K B H vs xs) (k : Key) {v : V} {d : PyData} (r : RepP K B H v d) : RepKK K B H (putK vs k v) (putD xs k d) := by
  unfold putK putD
  rw [h.any k]
  by_cases e : (xs.any fun kv => decide (kv.1 = k)) = true
  · rw [if_pos e, if_pos e]
    exact h.map k r
  · rw [if_neg e, if_neg e]
    exact h.append (.cons r .nil)
theorem RepKK.step {U B' U' : Addr → Prop} {H' : Hp} (st : Step U B H U' B' H') (hU : ∀ a, U a → B a) : ∀ {vs : List (Key × V)} {xs : List (Key × PyData)}, RepKK K B H vs xs → RepKK K B' H' vs xs
  | _, _, .nil => .nil
  | _, _, .cons r t => .cons (RepP.step st hU r) (RepKK.step st hU t)
theorem key_val {x : V} {d : PyData} {k : Key} (r : RepP K B H x d) (h : keyOf d = some k) : x = kV k := by
  cases r with
  | int i => cases h; rfl
  | str y => cases h; rfl
  | _ => cases h
theorem RepKK.less {B' : Addr → Prop} (h : ∀ a, B' a → B a) : ∀ {vs : List (Key × V)} {xs : List (Key × PyData)}, RepKK K B H vs xs → RepKK K B' H vs xs
  | _, _, .nil => .nil
  | _, _, .cons r t => .cons (RepP.less h r) (RepKK.less h t)
end
def compD (turn : PyData → (Option (Key × PyData) → Prop) → Prop) : List PyData → List (Key × PyData) → (List (Key × PyData) → Prop) → Prop
  | [], acc, Q => Q acc
  | x :: xs, acc, Q => turn x fun o => compD turn xs (match o with
    | some p => putD acc p.1 p.2
    | none => acc) Q
def dTurnD (g : DTG) (tt : DTT) (tk tv : DTE) (ρh : Env) : PyData → (Option (Key × PyData) → Prop) → Prop := fun x k =>
  g (.d x) ρh fun ρ1 => tt ρ1 (fun b ρ2 => if b = true then tk ρ2 (fun v ρ3 => tv ρ3 (fun u _ => match v, u with
    | .d y, .d z => match keyOf y with
      | some q => k (some (q, z))
      | none => False
    | _, _ => False) noX) noX else k none) noX
def dDComp (s : DTI) (g : DTG) (tt : DTT) (tk tv : DTE) (vs : List Nat) : DTE := fun ρ Q E => s ρ (fun xs ρ1 => xs.length < sizeLine ∧ compD (dTurnD g tt tk tv (hideE vs ρ1)) xs [] fun kvs => Q (.d (.dict (dictD kvs))) ρ1) E
theorem compD_mono {turn turn' : PyData → (Option (Key × PyData) → Prop) → Prop} (h : ∀ x (k k' : Option (Key × PyData) → Prop), (∀ o, k o → k' o) → turn x k → turn' x k') {Q Q' : List (Key × PyData) → Prop} (hQ : ∀ ys, Q ys → Q' ys) : ∀ (xs : List PyData) (acc : List (Key × PyData)), compD turn xs acc Q → compD turn' xs acc Q'
  | [], acc, q => hQ _ q
  | x :: xs, acc, q => h x _ _ (fun o z => compD_mono h hQ xs _ z) q
section
variable {g : DTG} {tt : DTT} {tk tv : DTE} {s : DTI} {vs : List Nat}
theorem turnD_mono (mg : MonoG g) (mt : MonoT tt) (mk : MonoE tk) (me : MonoE tv) (ρ : Env) : ∀ x (k k' : Option (Key × PyData) → Prop), (∀ o, k o → k' o) → dTurnD g tt tk tv ρ x k → dTurnD g tt tk tv ρ x k' := fun x k k' h q =>
  mg _ _ _ _ (fun ρ1 z => mt _ _ _ _ _ (fun b ρ2 z => by
    cases b with
    | true => exact mk _ _ _ _ _ (fun v ρ3 z => me _ _ _ _ _ (fun u ρ4 z => by
        cases v with
        | deck => exact z
        | d y =>
          cases u with
          | deck => exact z
          | d w =>
            show match keyOf y with
              | some q => k' (some (q, w))
              | none => False
            have z : match keyOf y with
              | some q => k (some (q, w))
              | none => False := z
            cases e : keyOf y with
            | none => rw [e] at z; exact z
            | some p => rw [e] at z; exact h _ z) (fun _ _ _ z => z) z) (fun _ _ _ z => z) z
    | false => exact h _ z) (fun _ _ _ z => z) z) q
theorem monoDComp (ms : MonoI s) (mg : MonoG g) (mt : MonoT tt) (mk : MonoE tk) (me : MonoE tv) : MonoE (dDComp s g tt tk tv vs) := fun ρ Q Q' E E' hQ hE q =>
  ms _ _ _ _ _ (fun xs ρ1 z => ⟨z.1, compD_mono (turnD_mono mg mt mk me _) (fun ys z => hQ _ _ z) xs [] z.2⟩) hE q
end
section
variable {X : Cx} {dk : Dk} {W : WX} {kx vx tg iter : Expr} {ifs : List Expr} {scope : Scope} {own : List (Str × Nat)} {pos : Pos} {s : DTI} {g : DTG} {tt : DTT} {tk tv : DTE}
theorem dcomp_core {σ : L2.St} {H : Hp} {Q : VK} (ms : MonoI s) (mgg : MonoG g) (mt : MonoT tt) (mk : MonoE tk) (me : MonoE tv) (vs : List Nat) (q : tDE X.K X.mg dk W (dDComp s g tt tk tv vs) σ H Q) :
    tDc (tDI X.K X.mg dk W s) (tDG X.K dk vs g) (tDT X.K X.mg dk WF tt) (tDE X.K X.mg dk WF tk) (tDE X.K X.mg dk WF tv) vs σ H Q := by
  obtain ⟨B, ρ, r, q⟩ := q
  refine bindI ms r q (fun _ _ _ z => z) fun xs ρ1 B1 H1 J z l st io hlen D hD => ?_
  have hsz := z.1
  have z := z.2
  -- the new dict belongs to nobody: it is put into B while it is made
  have nb : ¬ B1 D := fun b => l.trk D b hD
  obtain ⟨l0, s0⟩ := l.grow (Grow.upd (o := .dK []) hD)
  have l0' : Rel X.K dk (fun a => B1 a ∨ a = D) (upd H1 D (.dK [])) σ ρ1 ∧ Step (UU dk σ ρ1) B1 H1 (UU dk σ ρ1) (fun a => B1 a ∨ a = D) (upd H1 D (.dK [])) := by
    have st0 : Step (UU dk σ ρ1) B1 H1 (UU dk σ ρ1) (fun a => B1 a ∨ a = D) (upd H1 D (.dK [])) := ⟨s0.keep, s0.trk, fun a h _ _ => .inl h, fun a h => h.elim .inl fun e => .inr (e ▸ hD), fun a h => .inl h⟩
    refine ⟨⟨l0.len, fun i s e => (l.slot i s e).step st0 l.UB fun a h1 h2 u hu => ?_, l0.sep, fun i a h => ⟨.inl (l0.ownB i a h).1, (l0.ownB i a h).2⟩, l0.deck, fun a h => .inl (l0.deckB a h), fun a h => h.elim (l0.trk a) fun e => by rw [e, upd_same]; simp⟩, st0⟩
    rw [upd_ne (ne_of_none hu hD)]
    exact hu
  obtain ⟨l0, s0⟩ := l0'
  have nu : ¬ UU dk σ ρ1 D := fun u => nb (l.UB D u)
  have hD0 : H D = none := by
    by_cases e : H D = none
    · exact e
    · exact absurd hD (st.trk D e)
  refine ⟨fun i m H2 => i + m = xs.length ∧ ∃ (B2 : Addr → Prop) (vs2 : List (Key × V)) (ys : List (Key × PyData)), Rel X.K dk B2 H2 σ ρ1 ∧ Step (UU dk σ ρ1) B1 H1 (UU dk σ ρ1) B2 H2 ∧ H2 D = some (.dK vs2) ∧ B2 D ∧ vs2.length ≤ i ∧ RepKK X.K B2 H2 vs2 ys ∧
      compD (dTurnD g tt tk tv (hideE vs ρ1)) (xs.drop i) ys (fun ys => okE X.K dk Q B H σ ρ (.d (.dict (dictD ys))) ρ1), ⟨xs.length, Nat.zero_add _, _, [], [], l0, s0, upd_same, .inr rfl, Nat.le_refl _, .nil, z⟩, ?_⟩
  rintro i m H2 ⟨him, B2, vs2, ys, l2, s2, hD2, bD, hv, ry, q2⟩
  obtain ⟨io1, io2⟩ := io _ _ _ s2 l2.trk i
  by_cases hi' : xs.length = i
  · refine .inl ⟨io2 hi', ?_⟩
    rw [List.drop_eq_nil_of_le (Nat.le_of_eq hi')] at q2
    have l3 := l2.free nu
    have S := st.trans s2
    exact q2 (.ref D) (fun a => B2 a ∧ a ≠ D) H2 l3 ⟨S.keep, S.trk, fun a h n t => ⟨S.stay a h n t, fun e => t (e ▸ hD0)⟩, fun a h => S.bnew a h.1, S.unew⟩ (.dict hD2 (fun z => z.2 rfl) (by omega) (RepKs.less (fun a z => z.1) ry.out))
  · have hlt : i < xs.length := by omega
    obtain ⟨go, yl⟩ := io1 xs[i] (List.getElem?_eq_getElem hlt)
    rw [List.drop_eq_getElem_cons hlt] at q2
    refine .inr ⟨go, fun H3 => ∃ (zs : List (Key × PyData)) (B3 : Addr → Prop) (vs3 : List (Key × V)), Rel X.K dk B3 H3 σ ρ1 ∧ Step (UU dk σ ρ1) B1 H1 (UU dk σ ρ1) B3 H3 ∧ H3 D = some (.dK vs3) ∧ B3 D ∧ vs3.length ≤ i + 1 ∧ RepKK X.K B3 H3 vs3 zs ∧
      compD (dTurnD g tt tk tv (hideE vs ρ1)) (xs.drop (i + 1)) zs (fun ys => okE X.K dk Q B H σ ρ (.d (.dict (dictD ys))) ρ1), fun H3 ⟨zs, B3, vs3, a1, a2, a3, a4, a5, a6, a7⟩ => ⟨m - 1, by omega, by omega, B3, vs3, zs, a1, a2, a3, a4, a5, a6, a7⟩, fun y H3 hy => ?_⟩
    obtain ⟨gr, rx⟩ := yl y H3 hy
    obtain ⟨l3, s3⟩ := l2.grow gr
    obtain ⟨lh, uh⟩ := l3.hide vs
    have out : ∀ {U' B' : Addr → Prop} {H' : Hp} {σ' : L2.St} {ρ' : Env}, Step (UU dk (wipe σ vs) (hideE vs ρ1)) B2 H3 U' B' H' → Rel X.K dk B' H' σ' ρ' →
        Rel X.K dk B' H' σ ρ1 ∧ Step (UU dk σ ρ1) B1 H1 (UU dk σ ρ1) B' H' ∧ H' D = some (.dK vs2) ∧ B' D ∧ RepKK X.K B' H' vs2 ys := fun {U' B' H' σ' ρ'} sb l' => by
      have nD : ¬ UU dk (wipe σ vs) (hideE vs ρ1) D := fun z => nu (.inl (uh D z))
      obtain ⟨a1, a2⟩ := l3.under sb uh l'.deck l'.deckB l'.trk
      exact ⟨a1, (s2.trans s3).trans a2, sb.keep D _ (gr D _ hD2) nD (fun _ z => nomatch z), sb.stay D bD nD (by rw [gr D _ hD2]; simp), RepKK.step sb (fun a z => l3.deckB a (uh a z)) (RepKK.step s3 l2.UB ry)⟩
    refine ⟨B2, hideE vs ρ1, .d xs[i], lh, rx, mgg _ _ _ _ (fun ρ4 z4 σ4 B4 H4 w4 l4 s4 => ⟨by rw [w4, wipe_wipe], B4, ρ4, l4, mt _ _ _ _ _ (fun b ρ5 z5 B5 H5 l5 s5 => ?_) (fun _ _ _ z => z.elim) z4⟩) q2⟩
    cases b with
    | false =>
      obtain ⟨a1, a2, a3, a4, a5⟩ := out (s4.trans s5) l5
      exact ⟨ys, B5, vs2, a1, a2, a3, a4, by omega, a5, z5⟩
    | true =>
      refine ⟨B5, ρ5, l5, mk _ _ _ _ _ (fun v ρ6 z6 w B6 H6 l6 s6 rv => ⟨B6, ρ6, l6, me _ _ _ _ _ (fun u ρ7 z7 w2 B7 H7 l7 s7 ru => ?_) (fun _ _ _ z => z.elim) z6⟩) (fun _ _ _ z => z.elim) z5⟩
      cases v with
      | deck => exact z7.elim
      | d d =>
        cases u with
        | deck => exact z7.elim
        | d d2 =>
          have z7 : match keyOf d with
            | some q => compD (dTurnD g tt tk tv (hideE vs ρ1)) (xs.drop (i + 1)) (putD ys q d2) (fun ys => okE X.K dk Q B H σ ρ (.d (.dict (dictD ys))) ρ1)
            | none => False := z7
          cases ek : keyOf d with
          | none => rw [ek] at z7; exact z7.elim
          | some key =>
            rw [ek] at z7
            obtain ⟨a1, a2, a3, a4, a5⟩ := out (((s4.trans s5).trans s6).trans s7) l7
            refine ⟨vs2, key, key_val rv ek, a3, by omega, putD ys key d2, B7, putK vs2 key w2, ?_⟩
            obtain ⟨p1, p2⟩ := a1.poke (o := .dK (putK vs2 key w2)) a4 nu
            have hl := length_putK vs2 key w2
            have st9 : Step (fun a => a = D) B7 H7 (fun a => a = D) B7 (upd H7 D (.dK (putK vs2 key w2))) := ⟨fun a u h n _ => by rw [upd_ne n]; exact h, fun b hb => by
              by_cases e : b = D
              · rw [e, upd_same]; simp
              · rw [upd_ne e]; exact hb, fun _ h _ _ => h, fun _ h => .inl h, fun _ h => .inl h⟩
            refine ⟨p1, ⟨fun a o h n t => ?_, fun a h => ?_, a2.stay, a2.bnew, a2.unew⟩, upd_same, a4, by omega, RepKK.step st9 (fun a h => h ▸ a4) (a5.put key ru), z7⟩
            · rw [upd_ne (show a ≠ D from fun z => by rw [z, hD] at h; cases h)]
              exact a2.keep a o h n t
            · by_cases e : a = D
              · rw [e, upd_same]; simp
              · rw [upd_ne e]; exact a2.trk a h
theorem de_dcomp (hc : X.calm = true) (hN : X.N.Nodup) (hi : DI X dk W tg iter s) (ok : BlkOk X.N X.env.scope scope own)
    (hg : ∀ (s : Shared) (H : Hp) (C : Addr) (cl : List (Str × Addr)) (fp : List Addr), DG (X.blk s H scope (compEnvC scope cl C X.env) fp) dk (own.map (·.2)) tg g) (ht : ∀ (s : Shared) (H : Hp) (C : Addr) (cl : List (Str × Addr)) (fp : List Addr), DTs (X.blk s H scope (compEnvC scope cl C X.env) fp) dk WF ifs tt)
    (hk : ∀ (s : Shared) (H : Hp) (C : Addr) (cl : List (Str × Addr)) (fp : List Addr), DE (X.blk s H scope (compEnvC scope cl C X.env) fp) dk WF kx tk)
    (he : ∀ (s : Shared) (H : Hp) (C : Addr) (cl : List (Str × Addr)) (fp : List Addr), DE (X.blk s H scope (compEnvC scope cl C X.env) fp) dk WF vx tv) (hs : ∀ x, foldedSetIterable iter X.env x = pure x := by intro _; rfl) :
    DE X dk W (.DictComp kx vx [⟨tg, iter, ifs, 0⟩] scope pos) (dDComp s g tt tk tv (own.map (·.2))) := by
  have b := hg ⟨X.base, #[], X.s_0.drawn, 0, X.s_0.os⟩ (fun _ => none) 0 [] []
  have c := ht ⟨X.base, #[], X.s_0.drawn, 0, X.s_0.os⟩ (fun _ => none) 0 [] []
  have d1 := hk ⟨X.base, #[], X.s_0.drawn, 0, X.s_0.os⟩ (fun _ => none) 0 [] []
  have d := he ⟨X.base, #[], X.s_0.drawn, 0, X.s_0.os⟩ (fun _ => none) 0 [] []
  exact ⟨PE.imp (pe_dc (g := tDG X.K dk (own.map (·.2)) g) (tt := tDT X.K X.mg dk WF tt) (tk := tDE X.K X.mg dk WF tk) (tv := tDE X.K X.mg dk WF tv) hc hN hi.pi ok (fun a b c d e => (hg a b c d e).pg) (fun a b c d e => (ht a b c d e).pt) (fun a b c d e => (hk a b c d e).pe) (fun a b c d e => (he a b c d e).pe) hs) fun σ H Q q => dcomp_core hi.mono b.mono c.mono d1.mono d.mono _ q, monoDComp hi.mono b.mono c.mono d1.mono d.mono⟩
end
end DL
set_option maxHeartbeats 1000000
/-! D16: repr of nested data. -/
namespace DL
open PySem PySem.Spec
open PyProof.Rows hiding St
open L2

section
variable {P : Program} {w : World} {K : PySem.W.Frag} {B : Addr → Prop} {H : Hp} {h : Heap}
theorem ktup_look {a : Addr} {xs : List V} (k : KTup K a xs) (hk : K.In h) : ∃ (o : Obj) (its : Array Value) (n : Nat), h.get? a = some o ∧ o.cls = .type "tuple" ∧ o.data = .seq its n ∧ Vals xs its.toList := by
  obtain ⟨o, its, n, e, c, d, _, r⟩ := k
  exact ⟨o, its, n, hk a o e, c, d, r⟩
theorem keys_read {h : Heap} : ∀ {es : List DictEntry} {kvs : List (Key × Value)} {vs : List (Key × V)} {ds : List (PyData × PyData)}, Pairs (mixKind P w) es kvs → KV vs kvs → RepKs K B H vs ds → ReadsAll h (es.map (·.key)) (ds.map (·.1)) []
  | _, _, _, _, .nil, kv, r => by
    cases kv
    cases r
    exact .nil
  | _, _, _, _, .cons (e := e) hk hv p, kv, r => by
    cases kv with
    | cons k1 kv =>
      cases r with
      | cons r1 r =>
        have t := keys_read (h := h) p kv r
        have e1 := k1.1
        rcases keyIs_shape hk with ⟨i, tk, e2, e3⟩ | ⟨y, tk, e2, e3⟩
        · have e4 := e1.trans e2
          refine (show ReadsAll h (e.key :: _) (keyD _ :: _) ([] ++ []) from .cons ?_ t)
          rw [e3]
          subst e4
          exact .int i tk
        · have e4 := e1.trans e2
          refine (show ReadsAll h (e.key :: _) (keyD _ :: _) ([] ++ []) from .cons ?_ t)
          rw [e3]
          subst e4
          exact .str y tk
mutual
theorem rep_reads (hk : K.In h) (ok : HOk P w H h) : ∀ {x : V} {d : PyData} {u : Value}, RepP K B H x d → RelV x u → ∃ as, Reads h u d as ∧ ∀ a ∈ as, (∃ ys, H a = some (.lst ys)) ∨ (a == sysModules) = false
  | _, _, _, .none, r => by cases r; exact ⟨[], .none, fun a z => by cases z⟩
  | _, _, _, .bool b, r => by cases r; exact ⟨[], .bool b, fun a z => by cases z⟩
  | _, _, _, .int i, r => by obtain ⟨t, rfl⟩ := r; exact ⟨[], .int i t, fun a z => by cases z⟩
  | _, _, _, .str y _, r => by obtain ⟨t, rfl⟩ := r; exact ⟨[], .str y t, fun a z => by cases z⟩
  | _, _, _, .tuple (a := a) e _ _ t, r => by
    cases r
    obtain ⟨_, its, rv, o, h1, h2, n, h3⟩ := (show ObjOk P w H h a (.tup _) from ok a _ e)
    obtain ⟨as, ra, hq⟩ := reps_reads hk ok t rv
    exact ⟨as, .tuple h1 h2 h3 (by simpa using ra), hq⟩
  | _, _, _, .tupleK (a := a) e t, r => by
    cases r
    obtain ⟨o, its, n, h1, h2, h3, rv⟩ := ktup_look e hk
    obtain ⟨as, ra, hq⟩ := reps_reads hk ok t rv
    exact ⟨as, .tuple h1 h2 h3 ra, hq⟩
  | _, _, _, .list (a := a) e _ _ t, r => by
    cases r
    obtain ⟨_, its, n, rv, h1⟩ := (show ObjOk P w H h a (.lst _) from ok a _ e)
    obtain ⟨as, ra, hq⟩ := reps_reads hk ok t rv
    exact ⟨a :: as, .list h1 rfl rfl (by simpa using ra), fun b hb => by
      rcases List.mem_cons.mp hb with rfl | hb
      · exact .inl ⟨_, e⟩
      · exact hq b hb⟩
  | _, _, _, .dict (a := a) e _ _ t, r => by
    cases r
    obtain ⟨_, ns, vs, kv, o, es, ep, h1, h2, h3, _, h5, _⟩ := (show ObjOk P w H h a (.dK _) from ok a _ e)
    obtain ⟨bs, rb, hq⟩ := repk_reads hk ok t kv h5
    exact ⟨a :: [] ++ bs, .dict h1 h2.1 h3 (keys_read h5 kv t) rb, fun b hb => by
      rcases List.mem_cons.mp hb with rfl | hb
      · exact .inr ns
      · exact hq b (by simpa using hb)⟩
theorem repk_reads (hk : K.In h) (ok : HOk P w H h) : ∀ {x : List (Key × V)} {d : List (PyData × PyData)} {u : List (Key × Value)} {es : List DictEntry}, RepKs K B H x d → KV x u → Pairs (mixKind P w) es u →
    ∃ as, ReadsAll h (es.map (·.val)) (d.map (·.2)) as ∧ ∀ a ∈ as, (∃ ys, H a = some (.lst ys)) ∨ (a == sysModules) = false
  | _, _, _, _, .nil, kv, p => by cases kv; cases p; exact ⟨[], .nil, fun a z => by cases z⟩
  | _, _, _, _, .cons r1 t, kv, p => by
    cases kv with
    | cons k1 kv =>
      cases p with
      | cons p1 p2 p =>
        obtain ⟨as, h1, q1⟩ := rep_reads hk ok r1 k1.2
        obtain ⟨bs, h2, q2⟩ := repk_reads hk ok t kv p
        exact ⟨as ++ bs, .cons (by show Reads h (DictEntry.val _) _ _; rw [p2]; exact h1) h2, fun a ha => (List.mem_append.mp ha).elim (q1 a) (q2 a)⟩
theorem reps_reads (hk : K.In h) (ok : HOk P w H h) : ∀ {x : List V} {d : List PyData} {u : List Value}, RepPs K B H x d → Vals x u → ∃ as, ReadsAll h u d as ∧ ∀ a ∈ as, (∃ ys, H a = some (.lst ys)) ∨ (a == sysModules) = false
  | _, _, _, .nil, r => by cases r; exact ⟨[], .nil, fun a z => by cases z⟩
  | _, _, _, .cons r1 t, r => by
    cases r with
    | cons r2 rr =>
      obtain ⟨as, h1, q1⟩ := rep_reads hk ok r1 r2
      obtain ⟨bs, h2, q2⟩ := reps_reads hk ok t rr
      exact ⟨as ++ bs, .cons h1 h2, fun a ha => (List.mem_append.mp ha).elim (q1 a) (q2 a)⟩
end
theorem hasDict_depth : True := trivial
end
/-- the text of repr; b: lists and dicts may stand side by side -/
def reprOf (b : Bool) (d : PyData) : Option PyData := if (d.showable && decide (d.depth ≤ 100) && decide (d.shown.length ≤ sizeLine) && (b || !d.hasDict)) = true then some (.str d.shown) else none
def rRepr (K : PySem.W.Frag) (b : Bool) : List V → Hp → VK → Prop := fun xs H Q => ∃ (x : V) (d : PyData) (B : Addr → Prop), xs = [x] ∧ RepP K B H x d ∧ reprOf b d = some (.str d.shown) ∧ Q (.str d.shown) H
/-- no list stands where the table of modules stands -/
def SysOk (base : Heap) : Prop := ∃ o, base.get? sysModules = some o
theorem reprOf_inv {b : Bool} {d c : PyData} (h : reprOf b d = some c) : c = .str d.shown ∧ d.showable = true ∧ d.depth ≤ 100 ∧ d.shown.length ≤ sizeLine ∧ (b = true ∨ d.hasDict = false) := by
  unfold reprOf at h
  by_cases hc : (d.showable && decide (d.depth ≤ 100) && decide (d.shown.length ≤ sizeLine) && (b || !d.hasDict)) = true
  · rw [if_pos hc] at h
    cases h
    simp only [Bool.and_eq_true, Bool.or_eq_true, decide_eq_true_eq, Bool.not_eq_true'] at hc
    exact ⟨rfl, hc.1.1.1, hc.1.1.2, hc.1.2, hc.2⟩
  · rw [if_neg hc] at h
    cases h
theorem call_reprD {X : Cx} {k : Nat} {b : Bool} (hr : Room k X.A) (hG : X.A.guards = some []) (hs : b = true → SysOk X.base) : CallR X (.builtin "repr") (rRepr X.K b) := by
  intro pins s σ H xs us Q I r h
  obtain ⟨x, d, B, rfl, rx, e, q⟩ := h
  obtain ⟨_, h1, h2, h3, h4⟩ := reprOf_inv e
  obtain ⟨u, rfl, ru⟩ := vals1 r
  obtain ⟨as, rd, hq⟩ := rep_reads I.kIn I.hok rx ru
  have hun := hr.un
  have fin : ∀ h' t tk, (∀ b o, s.heap.get? b = some o → h'.get? b = some o) → EP X pins σ Q (.str d.shown t) { s with heap := h', toks := tk } := fun h' t tk k => ⟨.str d.shown, H, I.kept k, ⟨t, rfl⟩, q⟩
  have node : ∀ {a : Addr}, Reads s.heap (.ref a) d as → u = .ref a → wpAny (model X.prog X.w) X.A (call (.builtin "repr") [u]) (EP X pins σ Q) X.xe s := fun {a} rd eu => by
    subst eu
    refine repr_of_reads' rd h1 (fun hd hm => ?_) hG (by omega) (fun b o z => z) fin h3
    rcases h4 with h4 | h4
    · rcases hq _ hm with ⟨ys, hl⟩ | hn
      · obtain ⟨o, ho⟩ := hs h4
        have e2 := (I.bs _ _ ho).2
        rw [hl] at e2
        cases e2
      · simp at hn
    · rw [h4] at hd; cases hd
  cases rx with
  | none =>
    cases rd
    exact PySem.P.repr_of_none (fin _ _ _ fun b o z => z)
  | bool b =>
    cases rd
    exact PySem.P.repr_of_bool (fin _ _ _ fun b o z => z)
  | int i =>
    cases rd
    exact PySem.P.repr_of_int (by simpa [PyData.showable] using h1) (fin _ _ _ fun b o z => z)
  | str y =>
    cases rd
    exact PySem.P.repr_of_str (fin _ _ _ fun b o z => z) h3
  | tuple _ => exact node (by cases ru; exact rd) ru
  | tupleK _ => exact node (by cases ru; exact rd) ru
  | list _ => exact node (by cases ru; exact rd) ru
  | dict _ => exact node (by cases ru; exact rd) ru
theorem bui_repr {K : PySem.W.Frag} {dk : Dk} {b : Bool} : BuiS K dk (f1 (reprOf b)) (rRepr K b) := bui1 fun B H x a c Q ht rx e q => by
  obtain ⟨rfl, h1, h2, h3, h4⟩ := reprOf_inv e
  exact ⟨x, a, B, rfl, rx, e, q _ H (Grow.refl H) (.str _ h3)⟩
end DL
set_option maxHeartbeats 1000000
/-! D17: defs at the hand layer's own level: the deck, the draw, the law. -/
namespace DL
open PySem PySem.Spec
open PyProof.Rows hiding St
open L2

section
variable {P : Program} {w : World} {K : PySem.W.Frag} {mg : Str → Option Value} {base : Heap} {x qual : Str} {st : Stmt} {f : Addr} {fd : FuncData} {N ps : List Str} {k : Nat} {sp : Sp}
theorem fn_ts (F : Fun K x qual st f fd) (sc : FnScope N ps (defScope st)) (hlen : ∀ vs H Q E, sp vs H Q E → vs.length = ps.length)
    (hbody : ∀ (cdv : Value) (A : Around) (outer : List PySem.Env) (s : Shared) (H : Hp) (E : XK) (vs : List V) (Q : VK), Room k (A.deeper (envOfC qual (defScope st) s.heap.objs.size f cdv)) → (A.deeper (envOfC qual (defScope st) s.heap.objs.size f cdv)).guards = some [] → sp vs H Q E →
      ∃ t, PSs (cxOf (L2.CX P w) P w K mg base N qual (defScope st) f cdv A outer s H E) (defBody st) t ∧ t { nx := fun _ H' => Q .non H', rt := Q } (L2.start N vs) H) : FnG P w K mg base (k + 1) f fd ps sp := by
  obtain ⟨oc, od, kV, doc, pm, an, cdv, ct, osl, rfl, lk, hcd⟩ := F.ex
  refine ⟨hlen, fun A outer s H args us vs Q E hr hG env bind rv hsp => ?_⟩
  have hl := hlen _ _ _ _ hsp
  have inK : K.In s.heap := env.mod.kin.keeps fun b o z => (env.bs b o z).1
  have kinds : ∀ y ∈ ps.zip us, (defScope st).names.lookup y.1 = some .local ∨ ((defScope st).names.lookup y.1 = some .cell ∧ ((cellsFrom (s.heap.objs.size + 1) (defScope st).names []).lookup y.1).isSome = true) := by
    rintro ⟨nm, val⟩ hy
    exact (sc.par nm (List.of_mem_zip hy).1).imp id fun z => ⟨z, PySem.W.cellsFrom_some _ _ _ (.inl z)⟩
  refine codeAny_call_function hr.depth (inK _ _ lk) rfl sc.co sc.gen rfl (PySem.W.codeRec_of inK hcd) (bind _ _ _ _ (wpAny_newFunctionEnv_cells sc.kind kinds fun env' he s1 entered => ?_))
  subst he
  refine ⟨(env.mod.nolimit.keeps fun b o z => (env.bs b o z).1).keeps entered.toInCall.keep, codeAny_func ?_⟩
  obtain ⟨t, body, start⟩ := hbody cdv A outer s H E vs Q (hr.deeper _) hG hsp
  have J : Inv (cxOf (L2.CX P w) P w K mg base N qual (defScope st) f cdv A outer s H E) [] (L2.start N vs) H s1 := inv_start sc hr.hd env hl rv entered
  refine wpAny_mono (body.run [] s1 (L2.start N vs) H { nx := fun _ H' => Q .non H', rt := Q } J start) (fun fl s' got => ?_) fun e s' got => got
  cases fl with
  | ret u =>
    obtain ⟨v, σ', H', I', r', q'⟩ := got
    exact ⟨v, H', I'.os, I'.bare, I'.base, I'.hok, r', q'⟩
  | next =>
    obtain ⟨σ', H', I', q'⟩ := got
    exact ⟨V.non, H', I'.os, I'.bare, I'.base, I'.hok, rfl, q'⟩
  | brk =>
    obtain ⟨_, _, _, q'⟩ := got
    exact q'.elim
  | cont =>
    obtain ⟨_, _, _, q'⟩ := got
    exact q'.elim
end

/-! ### calls by their promise -/
def tCallG (sp : Sp) (W : WX) (ta : TA) : TE := fun σ H Q => ta σ H fun vs H1 => sp vs H1 Q (WE W σ)
section
variable {X : Cx} {dk : Dk} {W : WX} {k : Nat} {f : Addr} {fd : FuncData} {ps : List Str} {sp : Sp} {x : Str} {p pos : Pos} {e : Expr} {es : List Expr} {ta : TA}
theorem pe_callG (F : FnG X.prog X.w X.K X.mg X.base k f fd ps sp) (hr : Room k X.A) (hG : X.A.guards = some []) (tk : Takes X W) (hm : X.mg x = some (.ref f)) (hk : PySem.W.keepIn X.K (.ref f) = true) (hb : Binds X.K fd ps [])
    (ha : PA X (e :: es) ta) (hg : Gl X x := by rfl) (hdb : (x == ("__debug__" : Str)) = false := by decide) (he : starEach (e :: es) X.env = (false, eval e X.env) :: starEach es X.env := by rfl) (hpl : (backTo pos (starEach es X.env)).any (·.1) = false := by rfl) :
    PE X (.Call (.Name x p) (e :: es) [] pos) (tCallG sp W ta) := by
  refine ⟨fun pins s σ H Q I h => ?_⟩
  refine wpAny_Call_Name_kw (ld_glob I hg hm ?_ hdb)
  refine PySem.W.callWith_K (h₀ := X.base) I.ok.mod.kin hk (thn (ha.run pos pins s σ H (fun vs H1 => sp vs H1 Q (WE W σ)) I h) fun us s1 ⟨vs, H1, I1, rv, q⟩ => ⟨I1.kIn, ?_⟩) he hpl
  have hl : (us ++ []).length = ps.length := by
    rw [List.append_nil, ← rv.length]
    exact F.len _ _ _ _ q
  have bb := hb s1 us I1.kIn hl
  rw [List.append_nil] at bb
  exact run_fnG (args := ⟨us, []⟩) F hr hG I1 bb rv (fun e s' c => passAt tk σ pins H1 s1 e s' I1 c) q
end

/-! ### the deck, the draw -/
/-- a draw below n gives any r below n -/
def SDraw (key : Str) : Spec := fun as Q _ => ∃ n : Int, as = [.deck key, .d (.int n)] ∧ 0 < n ∧ n.natAbs.log2 < 9000 ∧ ∀ r : Int, 0 ≤ r → r < n → Q (.d (.int r))
theorem monoDraw {key : Str} : MonoC (SDraw key) := fun as Q Q' E E' hQ hE ⟨n, e, h1, h2, h3⟩ => ⟨n, e, h1, h2, fun r a b => hQ _ (h3 r a b)⟩
/-- the deck of a script -/
def spDeck (K : PySem.W.Frag) (key : Str) : Sp := fun vs H Q _ => ∃ (a : Addr) (ns : List Int), vs = [.ref a] ∧ SqL K H a (ns.map V.int) ∧ ns.length ≤ 63 ∧ ∀ (dk : Dk) (H' : Hp), dk.on = true → dk.key = key → DeckAt dk H' → Q (.ref dk.ad) H'
/-- the law's promise -/
def spLaw (K : PySem.W.Frag) : Sp := fun vs H Q _ => ∃ (a : Addr) (ns : List Int), vs = [.ref a] ∧ SqL K H a (ns.map V.int) ∧ ns.length ≤ 63 ∧ ∀ H', Q (.bl true) H'
/-- nothing leaves the law -/
abbrev WN : WX := fun _ _ _ _ => False
theorem deck_get {dk : Dk} {H : Hp} {key : Str} {v : V} {kvs : List (Key × V)} (h : H dk.ad = some (.dK kvs)) (e : valV kvs (.inr key) = some v) : DGet H dk.ad (.str key) (some v) := .inl ⟨kvs, .inr key, .inl h, rfl, e.symm⟩
theorem if_t {c : Bool} {p q : Prop} (hc : c = true) (h : p) : if c = true then p else q := by rw [if_pos hc]; exact h
theorem if_f {c : Bool} {p q : Prop} (hc : c = false) (h : q) : if c = true then p else q := by rw [hc, if_neg Bool.false_ne_true]; exact h
end DL
set_option maxHeartbeats 1000000
/-! D18: a fresh list is stored as one's own; the law. -/
namespace DL
open PySem PySem.Spec
open PyProof.Rows hiding St
open L2

def dAsgF (i : Nat) (t : DLE) : DTS := fun D ρ => t ρ (fun xs ρ' => D.nx (ρ'.set i (.own xs))) D.ex
section
variable {X : Cx} {dk : Dk} {W : WX} {e : Expr} {t : DLE} {pos : Pos}
theorem ds_setOwn (i : Nat) {x : Str} {pos' : Pos} (hN : X.N.Nodup) (h : DF X dk W e t) (hi : X.N[i]? = some x := by rfl) (hx : Loc X.env.scope x := by first | exact Or.inl rfl | exact Or.inr rfl)
    (hs : swapsWith e (some (.Name x pos')) pos.line X.env = pure false := by rfl) (hf : X.fn x = true ∨ X.env.scope.names.lookup x = some .local := by first | exact .inl rfl | exact .inr rfl | assumption) :
    DS X dk W (.Assign [.Name x pos'] e pos) (dAsgF i t) :=
  ⟨PS.imp (ps_set hN hi hx h.pe hs hf) fun D σ H ⟨B, ρ, r, q⟩ => bindF h.mono r q (fun _ _ _ z => exS.toE z) fun xs ρ1 vs p B1 H1 z l s h1 h2 h3 h4 h5 h6 => by
    have l' := l.setS i (x := .ref p) (s := .own xs) ⟨p, vs, rfl, h1, h5, h6⟩ (fun _ a e => by cases e; exact ⟨h2, h3⟩)
    refine z _ B1 H1 l' ⟨s.keep, s.trk, s.stay, s.bnew, fun a h => ?_⟩
    rcases UU.setS h with u | ⟨_, u⟩
    · exact s.unew a u
    · cases u; exact .inr h4, fun D D' ρ h' q => h.mono _ _ _ _ _ (fun v ρ' q => h'.nx _ q) h'.ex q⟩
end

section
variable {P : Program} {w : World} {K : PySem.W.Frag} {mg : Str → Option Value} {base : Heap} {x qual : Str} {st : Stmt} {f : Addr} {fd : FuncData} {N : List Str} {sn : Str} {k : Nat}
theorem law_fn {i : Nat} {key : Str} {t : DTS} (F : Fun K x qual st f fd) (sc : FnScope N [sn] (defScope st))
    (hbody : ∀ (cdv : Value) (A : Around) (outer : List PySem.Env) (s : Shared) (H : Hp) (E : XK), Room k (A.deeper (envOfC qual (defScope st) s.heap.objs.size f cdv)) → (A.deeper (envOfC qual (defScope st) s.heap.objs.size f cdv)).guards = some [] →
      ∃ (first : Stmt) (rest : List Stmt), defBody st = first :: rest ∧ PS (cxOf (L2.CX P w) P w K mg base N qual (defScope st) f cdv A outer s H E) first (tAsg (tCallG (spDeck K key) (WL E) (tCons (tVar 0) tNil)) (gName i)) ∧
        ∀ dk : Dk, DSs (cxOf (L2.CX P w) P w K mg base N qual (defScope st) f cdv A outer s H E) dk (WL E) rest t)
    (pure : t { nx := fun _ => False, rt := fun v _ => v = .d (.bool true), bk := fun _ => False, ct := fun _ => False, ex := fun _ _ _ => False } ((List.replicate N.length .un).set i (.val (.deck key)))) :
    FnG P w K mg base (k + 1) f fd [sn] (spLaw K) := by
  refine fn_ts F sc (fun vs H Q E h => by obtain ⟨a, ns, rfl, _⟩ := h; rfl) fun cdv A outer s H E vs Q hr hG h => ?_
  obtain ⟨first, rest, eb, hf, hrest⟩ := hbody cdv A outer s H E hr hG
  obtain ⟨a, ns, rfl, hS, hl, q⟩ := h
  refine ⟨tSeq (tAsg (tCallG (spDeck K key) (WL E) (tCons (tVar 0) tNil)) (gName i)) (fun D σ H => ∃ dk : Dk, tDS K mg dk (WL E) t D σ H), ?_, ?_⟩
  · rw [eb]
    exact pss_cons hf ⟨fun pins s σ H D I ⟨dk, q⟩ => (hrest dk).ps.run pins s σ H D I q⟩
  · refine ⟨.ref a, rfl, a, ns, rfl, hS, hl, fun dk H' on ky da => ?_⟩
    obtain ⟨nad, left, m, n, ha, hb, hle⟩ := da on
    have len : (L2.start N [V.ref a]).length = N.length := by
      unfold L2.start
      have e1 : (N.take 1).length = 1 := by
        have e0 : N.take 1 = [sn] := sc.pre
        rw [e0]
        rfl
      rw [List.length_take] at e1
      rw [List.length_append, List.length_map, List.length_replicate]
      show 1 + (N.length - 1) = N.length
      omega
    have no : ∀ j b, ¬ OwnAt ((L2.start N [V.ref a]).set i (some (.ref dk.ad))) ((List.replicate N.length .un).set i (.val (.deck key))) j b := fun j b ⟨s', e, o, _⟩ => by
      rcases get_set e with ⟨_, rfl, _⟩ | ⟨_, e⟩
      · cases o
      · rw [List.getElem?_replicate] at e
        split at e
        · cases e; cases o
        · cases e
    refine ⟨dk, dkU dk, (List.replicate N.length .un).set i (.val (.deck key)), ⟨?_, fun j s' e => ?_, fun j l b h => absurd h (no j b), fun j b h => absurd h (no j b), da, fun b h => h, fun b h => ?_⟩, ?_⟩
    · rw [List.length_set, List.length_set, List.length_replicate, len]
    · rcases get_set e with ⟨rfl, rfl, hi⟩ | ⟨_, e⟩
      · rw [List.length_replicate] at hi
        exact ⟨.ref dk.ad, by rw [List.getElem?_set_self (by rw [len]; exact hi)], on, ky, rfl⟩
      · rw [List.getElem?_replicate] at e
        split at e
        · cases e; trivial
        · cases e
    · rcases h.2 with rfl | rfl
      · rw [ha]; simp
      · rw [hb]; simp
    · refine (hrest dk).mono { nx := fun _ => False, rt := fun v _ => v = .d (.bool true), bk := fun _ => False, ct := fun _ => False, ex := fun _ _ _ => False } _ _ ⟨fun _ z => z.elim, fun v ρ' z y σ' B' H2 l s' ry => ?_, fun _ z => z.elim, fun _ z => z.elim, fun _ _ _ z => z.elim⟩ pure
      subst z
      obtain rfl := repBool ry
      exact q H2
end
end DL
set_option maxHeartbeats 1000000
/-! D19: subscripts; constants of the module; what a law's facts are. -/
namespace DL
open PySem PySem.Spec
open PyProof.Rows hiding St
open L2

section
variable {X : Cx} {dk : Dk} {W : WX} {e f : Expr} {t u : DTE} {pos : Pos}
theorem de_ix (h1 : DE X dk W e t) (h2 : DE X dk W f u) (hs : PlainIx f := by exact fun _ _ => rfl) : DE X dk W (.Subscript e f pos) (dOp (fOp itemOf) t u) :=
  ⟨PE.imp (pe_ix ix_seq h1.pe h2.pe hs) fun σ H Q h => op2_core ops_ix h1.mono h2.mono h, monoOp fOp_mono h1.mono h2.mono⟩
theorem de_const {x : Str} {a : Addr} {d : PyData} (hg : Gl X x) (hm : X.mg x = some (.ref a)) (hr : ∀ B H, RepP X.K B H (.ref a) d) (hd : (x == ("__debug__" : Str)) = false := by decide) : DE X dk W (.Name x pos) (dC d) :=
  de_c (pe_glob (v := .ref a) hg hm rfl hd) hr
theorem takesF : Takes X WF := fun u s' ⟨a, B, sI, pins, σ, H, cls, d, e, I, nb, up, sky, na, os, ag, w⟩ => w.elim
end
/-- where a def stands -/
structure DefAt (K : PySem.W.Frag) (mg : Str → Option Value) (x : Str) (st : Stmt) (ps : List Str) : Type where
  a : Addr
  fd : FuncData
  F : Fun K x x st a fd
  g : mg x = some (.ref a)
  b : Binds K fd ps []
theorem DefAt.k {K : PySem.W.Frag} {mg : Str → Option Value} {x : Str} {st : Stmt} {ps : List Str} (d : DefAt K mg x st ps) : PySem.W.keepIn K (.ref d.a) = true := d.F.kp
section
variable {K : PySem.W.Frag} {mg : Str → Option Value} {x qual : Str} {st : Stmt} {f : Addr} {fd : FuncData} {ps ks : List Str} {π : List Nat}
theorem kw_of (F : Fun K x qual st f fd) (h : ∀ (kV doc pm : Value) (an : Option Addr) (cdv ct : Value) (ws us : List Value), ws.length = ks.length → pick π ws = some us → us.length = ps.length →
    bindArgs (PySem.W.fnOf x qual (defArgs st) (defBody st) (defScope st) .none kV doc pm an cdv ct) ⟨[], ks.zip ws⟩ = pure (ps.zip us)) : KwTo fd ps ks π := by
  obtain ⟨oc, od, kV, doc, pm, an, cdv, ct, osl, rfl, lk, hcd⟩ := F.ex
  exact h kV doc pm an cdv ct
end
end DL
set_option maxHeartbeats 1000000
/-! D20: name = {..} of one line. -/
namespace DL
open PySem PySem.Spec
open PyProof.Rows hiding St
open L2

theorem swD_true {kx vx : Expr} {gs : List Comprehension} {scope : Scope} {pos py : Pos} {y : Str} {l : Nat} {env : PySem.Env} (hk : env.scope.kind = .function) (hy : env.scope.names.lookup y = some .local) (hl : (py.line == pos.line) = true)
    (ha : (scope.names.any fun (n, k) => n == y && (k == .local || k == .cell)) = false) : swapsWith (.DictComp kx vx gs scope pos) (some (.Name y py)) l env = pure true := by
  have k1 : env.kindOf y = some .local := hy
  have k2 : env.blockKind = .function := by
    unfold Env.blockKind
    rw [hk] <;> rfl
  unfold swapsWith
  simp only [k2, k1, ha, Expr.pos, hl] <;> rfl
section
variable {X : Cx} {dk : Dk} {W : WX} {kx vx tg iter : Expr} {ifs : List Expr} {scope : Scope} {own : List (Str × Nat)} {pos spos py : Pos} {s : DTI} {g : DTG} {tt : DTT} {tk tv : DTE}
theorem ps_setDc {i : Nat} {y : Str} {wi : TI} {gg : TG} {ttt : TT} {ttk ttv : TE} (hc : X.calm = true) (hN : X.N.Nodup) (hy : X.N[i]? = some y) (hyl : X.env.scope.names.lookup y = some .local)
    (hsw : swapsWith (.DictComp kx vx [⟨tg, iter, ifs, 0⟩] scope pos) (some (.Name y py)) spos.line X.env = pure true) (hi : PI X tg iter wi) (ok : BlkOk X.N X.env.scope scope own)
    (hg : ∀ s H C cl fp, PG (X.blk s H scope (compEnvC scope cl C X.env) fp) tg gg) (ht : ∀ s H C cl fp, PTs (X.blk s H scope (compEnvC scope cl C X.env) fp) ifs ttt)
    (hk : ∀ s H C cl fp, PE (X.blk s H scope (compEnvC scope cl C X.env) fp) kx ttk) (he : ∀ s H C cl fp, PE (X.blk s H scope (compEnvC scope cl C X.env) fp) vx ttv) (hs : ∀ x, foldedSetIterable iter X.env x = pure x := by intro _; rfl) :
    PS X (.Assign [.Name y py] (.DictComp kx vx [⟨tg, iter, ifs, 0⟩] scope pos) spos) (tAsg (tDc wi gg ttt ttk ttv (own.map (·.2))) (gName i)) := by
  refine ⟨fun pins s0 σ H D I h => ?_⟩
  rw [exec_Assign_Name_used _ _ _ _ hsw]
  refine wpAny_bind (wpAny_standAt (wpAny_bind ?_))
  have h2 : tDc wi gg ttt ttk ttv (own.map (·.2)) σ H (fun x H1 => gName i x σ H1 D.nx) := h
  show wpAny _ X.A (do let _ ← comprehension (.DictComp kx vx [⟨tg, iter, ifs, 0⟩] scope pos) scope X.env (firstIterPos [⟨tg, iter, ifs, 0⟩] pos) newDict false (eval iter X.env) (some (assign (.Name y py) X.env))) _ _ s0
  refine wpAny_bind (thn (dc_core (Qf := fun _ s' => SP X pins D .next s') hc hN I hi ok hg ht hk he hs h2 fun L C s' m H' I' q hn f => ?_) fun _ s' hq => wpAny_pure (wpAny_pure hq))
  show wpAny _ _ (assign (.Name y py) X.env (.ref L)) _ _ _
  refine wpAny_assign_Name (store_ok2 (v := V.ref L) I' hN hy (.inl hyl) rfl (fun s2 I2 ⟨a, sb, ha⟩ => ?_) (.inr hyl))
  have apart : C ≠ a := ha.elim (fun z => by rw [z]; exact f.2.1) fun z e => f.2.2.2.2.1 y a z e.symm
  exact ⟨m, hn.sameBut sb apart, fun h3 sb3 => ⟨_, H', I2.turned (t' := s2.toks) (fun b o hb e => (sb3.2 b hb).trans e) f.1 f.2.1 f.2.2.2.1 f.2.2.2.2.1 f.2.2.2.2.2, q⟩⟩
theorem ds_setDc (i : Nat) {y : Str} (hc : X.calm = true) (hN : X.N.Nodup) (hi : DI X dk W tg iter s) (ok : BlkOk X.N X.env.scope scope own)
    (hg : ∀ (s : Shared) (H : Hp) (C : Addr) (cl : List (Str × Addr)) (fp : List Addr), DG (X.blk s H scope (compEnvC scope cl C X.env) fp) dk (own.map (·.2)) tg g) (ht : ∀ (s : Shared) (H : Hp) (C : Addr) (cl : List (Str × Addr)) (fp : List Addr), DTs (X.blk s H scope (compEnvC scope cl C X.env) fp) dk WF ifs tt)
    (hk : ∀ (s : Shared) (H : Hp) (C : Addr) (cl : List (Str × Addr)) (fp : List Addr), DE (X.blk s H scope (compEnvC scope cl C X.env) fp) dk WF kx tk) (he : ∀ (s : Shared) (H : Hp) (C : Addr) (cl : List (Str × Addr)) (fp : List Addr), DE (X.blk s H scope (compEnvC scope cl C X.env) fp) dk WF vx tv)
    (hy : X.N[i]? = some y := by rfl) (hyl : X.env.scope.names.lookup y = some .local := by rfl)
    (hsw : swapsWith (.DictComp kx vx [⟨tg, iter, ifs, 0⟩] scope pos) (some (.Name y py)) spos.line X.env = pure true := by exact swD_true rfl rfl rfl (by decide +kernel)) (hs : ∀ x, foldedSetIterable iter X.env x = pure x := by intro _; rfl) :
    DS X dk W (.Assign [.Name y py] (.DictComp kx vx [⟨tg, iter, ifs, 0⟩] scope pos) spos) (dAsg i (dDComp s g tt tk tv (own.map (·.2)))) := by
  have b := hg ⟨X.base, #[], X.s_0.drawn, 0, X.s_0.os⟩ (fun _ => none) 0 [] []
  have c := ht ⟨X.base, #[], X.s_0.drawn, 0, X.s_0.os⟩ (fun _ => none) 0 [] []
  have d1 := hk ⟨X.base, #[], X.s_0.drawn, 0, X.s_0.os⟩ (fun _ => none) 0 [] []
  have d := he ⟨X.base, #[], X.s_0.drawn, 0, X.s_0.os⟩ (fun _ => none) 0 [] []
  have mm := monoDComp (vs := own.map (·.2)) hi.mono b.mono c.mono d1.mono d.mono
  refine ⟨PS.imp (ps_setDc (gg := tDG X.K dk (own.map (·.2)) g) (ttt := tDT X.K X.mg dk WF tt) (ttk := tDE X.K X.mg dk WF tk) (ttv := tDE X.K X.mg dk WF tv) hc hN hy hyl hsw hi.pi ok (fun a b c d e => (hg a b c d e).pg) (fun a b c d e => (ht a b c d e).pt) (fun a b c d e => (hk a b c d e).pe) (fun a b c d e => (he a b c d e).pe) hs) fun D σ H ⟨B, ρ, r, q⟩ => ?_, monoAsg mm⟩
  refine dcomp_core hi.mono b.mono c.mono d1.mono d.mono _ (bindE mm r q (fun _ _ _ z => exS.toE z) fun v ρ1 x B1 H1 p l st rv => ?_)
  obtain ⟨l', s'⟩ := l.set i rv
  exact p _ B1 H1 l' (st.trans s')
end
end DL
set_option maxHeartbeats 1000000
/-! D21: the law's end, for defs that ask that no guard is set. -/
namespace DL
open PySem PySem.Spec
open PyProof.Rows hiding St
open L2

section
variable {P : Program} {w : World} {K : PySem.W.Frag} {mg mb : Str → Option Value} {k : Nat} {fa a : Addr} {fd : FuncData} {x : Str} {sp : Sp} {s1 : Shared} {vs : List Value} {ns : List Int}
/-- from an abstract heap that tracks the script at most -/
theorem call_from (inK : K.In s1.heap) (hns : s1.heap.Ns mainGlobals mg) (hb : s1.heap.Ns builtinsNs mb) (hbb : ∀ x : Str, x ≠ "__name__" → mb x = bootBuiltins x) (hlim : s1.heap.NoLimit) (hg : s1.gens = #[])
    (ha : s1.heap.get? a = some { cls := .type "list", data := .seq vs.toArray }) (hr : Room k callerA)
    (F : ∀ base : Heap, K.In base → base.Ns mainGlobals mg → FnG P w K mg base k fa fd [x] sp) (bind : ∀ (s : Shared) (u : Value), BindsTo s fd ⟨[u], []⟩ [(x, u)])
    (H : Hp) (only : Only H) (hok : HOk P w H s1.heap) (alone : ∀ b, H b ≠ none → b = a) (notK : H a ≠ none → K.lookup a = none) (hsp : sp [.ref a] H (fun v _ => v = .bl true) fun _ _ _ => False) :
    codeAny (model P w) callerA (.call (.ref fa) ⟨[.ref a], []⟩) (fun r s' => r = .ok (.ret (.bool true)) ∧ OldK s1.heap s'.heap ∧ s'.os = s1.os ∧ AllBare s'.gens) s1 := by
  -- what is not tracked stands in the base
  have keep : ∀ {b : Addr} {o : Obj}, s1.heap.get? b = some o → (b = a → H a = none) → (hidT s1.heap H).get? b = some o := fun {b o} e n => by
    refine hidT_get e ?_
    by_cases z : H b = none
    · exact z
    · have e1 := alone b z
      rw [e1] at z ⊢
      exact n e1
  have dict : ∀ {b : Addr} {m : Str → Option Value}, s1.heap.Ns b m → (hidT s1.heap H).Ns b m := fun {b m} ⟨o, es, ep, e, d, r⟩ => ⟨o, es, ep, keep e (fun z => by
    rw [z, ha] at e
    cases e
    cases d), d, r⟩
  have inB : K.In (hidT s1.heap H) := fun b o e => keep (inK b o e) fun z => by
    by_cases q : H a = none
    · exact q
    · have := notK q
      rw [← z, e] at this
      cases this
  have md : Mod K mg (hidT s1.heap H) := ⟨inB, dict hns, ⟨mb, dict hb, hbb⟩, hlim.elim fun mc h => ⟨mc, dict h.1, h.2⟩⟩
  have env : Env0 P w K mg (hidT s1.heap H) callerA [] s1 H := ⟨rfl, md, fun b o e => of_hidT e, Nat.le_of_eq (hidT_size _ _), trivial, fun b hb => (List.not_mem_nil hb).elim, hok, .of_eq hg⟩
  have run := (F _ inB (dict hns)).run callerA [] s1 H ⟨[.ref a], []⟩ [.ref a] [.ref a] _ _ hr rfl env (bind s1 (.ref a)) (.cons rfl .nil) hsp
  refine codeAny_mono run fun r s' got => ?_
  match r, got with
  | .error e, ⟨_, _, _, _, _, _, _, _, _, _, _, _, no⟩ => exact no.elim
  | .ok (.ret u), ⟨v, H', os, bare, un, hok', rv, q⟩ =>
    have q : v = .bl true := q
    subst q
    cases (show u = Value.bool true from rv)
    refine ⟨rfl, OldK.of_keep fun b o e => ?_, os, bare⟩
    rcases only b with z | ⟨ob, xs, z⟩
    · exact un.keep b o e z (fun y => (List.not_mem_nil y).elim) (fun y => (List.not_mem_nil y).elim)
    · have h1 := (show ObjOk P w H s1.heap b (.frz ob (.lst xs)) from hok b _ z).1
      have h2 := (show ObjOk P w H' s'.heap b (.frz ob (.lst xs)) from hok' b _ (un.frzs b ob _ z)).1
      rw [e] at h1
      cases h1
      exact h2
theorem law_callG (inK : K.In s1.heap) (hns : s1.heap.Ns mainGlobals mg) (hb : s1.heap.Ns builtinsNs mb) (hbb : ∀ x : Str, x ≠ "__name__" → mb x = bootBuiltins x) (hlim : s1.heap.NoLimit) (hg : s1.gens = #[])
    (ha : s1.heap.get? a = some { cls := .type "list", data := .seq vs.toArray }) (hi : IntsAre vs ns) (hl : ns.length ≤ sizeLine) (hr : Room k callerA)
    (F : ∀ base : Heap, K.In base → base.Ns mainGlobals mg → FnG P w K mg base k fa fd [x] sp) (bind : ∀ (s : Shared) (u : Value), BindsTo s fd ⟨[u], []⟩ [(x, u)])
    (hsp : ∀ H : Hp, SqL K H a (ns.map V.int) → sp [.ref a] H (fun v _ => v = .bl true) fun _ _ _ => False) :
    codeAny (model P w) callerA (.call (.ref fa) ⟨[.ref a], []⟩) (fun r s' => r = .ok (.ret (.bool true)) ∧ OldK s1.heap s'.heap ∧ s'.os = s1.os ∧ AllBare s'.gens) s1 := by
  have rv := vals_ints hi
  by_cases z : K.lookup a = none
  · let ob : Obj := { cls := .type "list", data := .seq vs.toArray }
    let H : Hp := upd (fun _ => none) a (.frz ob (.lst (ns.map V.int)))
    have other : ∀ {b : Addr}, b ≠ a → H b = none := fun {b} n => upd_ne n
    have self : H a = some (.frz ob (.lst (ns.map V.int))) := upd_same
    refine call_from inK hns hb hbb hlim hg ha hr F bind H (fun b => ?_) (fun b u e => ?_) (fun b e => ?_) (fun _ => z) (hsp H (.inl (.inr ⟨ob, self⟩)))
    · by_cases n : b = a
      · exact .inr ⟨ob, _, n ▸ self⟩
      · exact .inl (other n)
    · by_cases n : b = a
      · subst n
        rw [self] at e
        cases e
        exact ⟨ha, by rw [List.length_map]; exact hl, vs, _, rv, ha⟩
      · rw [other n] at e
        cases e
    · by_cases n : b = a
      · exact n
      · exact absurd (other n) e
  · obtain ⟨o, e⟩ : ∃ o, K.lookup a = some o := by
      cases q : K.lookup a with
      | none => exact absurd q z
      | some o => exact ⟨o, rfl⟩
    have e2 := inK a o e
    rw [ha] at e2
    cases e2
    refine call_from inK hns hb hbb hlim hg ha hr F bind (fun _ => none) (fun _ => .inl rfl) (fun b u q => by cases q) (fun b n => absurd rfl n) (fun n => absurd rfl n) (hsp _ (.inr ⟨_, vs.toArray, _, e, rfl, rfl, rfl, ?_, by simpa using rv⟩))
    rw [List.size_toArray, hi.length]
    exact hl
end
theorem walkG {l : PySem.W.OpenLaw} {n k : Nat} {q : Program} {loose : List Str} {XP : (Str → Option Value) → Heap → Prop} {YP : World → Heap → Prop} {d : DefRec} {K : Params → PySem.W.Frag} {x : Str}
    (hn : l.most = some n) (hn2 : n ≤ 63) (hdf : d.params.defaults = []) (hr : Room k callerA) (hY : ∀ (w : World) (h : Heap), YP w h → (K w.params).In h)
    (F : ∀ (w : World) (mg : Str → Option Value) (fa : Addr) (h : Heap), (K w.params).In h → h.Ns mainGlobals mg → mg d.name = some (.ref fa) →
      ∃ fd : FuncData, (∀ (s : Shared) (u : Value), BindsTo s fd ⟨[u], []⟩ [(x, u)]) ∧ ∀ base : Heap, (K w.params).In base → base.Ns mainGlobals mg → FnG l.prog w (K w.params) mg base k fa fd [x] (spLaw (K w.params))) :
    PySem.W.WalkO q loose XP YP l.row.toRowW d [] (fun f vs => PySem.call f vs) := by
  refine Att.attach_call hn hdf fun w s₀ s₁ mg mb fa o pm cd doc a vs ns G Y ho hd hcd hmg hobj hints hlen hg => ?_
  have inK := hY w _ Y
  obtain ⟨fd, hb, hF⟩ := F w mg fa _ inK G.T.g hmg
  have h63 : ns.length ≤ 63 := Nat.le_trans hlen hn2
  exact law_callG inK G.T.g G.T.b G.T.builtins G.T.nolimit hg hobj hints (by rw [sizeLine_eq]; omega) hr hF hb fun H hS => ⟨a, ns, rfl, hS, h63, fun _ => rfl⟩
end DL
set_option maxHeartbeats 1000000
/-! D22: the plain side: loops, comprehensions, tests by invariants. -/
namespace DL
open PySem PySem.Spec
open PyProof.Rows hiding St
open L2

theorem sz {n : Nat} (h : n ≤ 1000 := by decide) : n ≤ sizeLine := by rw [sizeLine_eq]; omega
theorem m_of {o : Option PyData} {R : PyData → Prop} : (∃ c, o = some c ∧ R c) → match o with
    | some c => R c
    | none => False := fun ⟨c, h, q⟩ => by
  subst h
  exact q
theorem m_ofL {o : Option (List PyData)} {R : List PyData → Prop} : (∃ c, o = some c ∧ R c) → match o with
    | some c => R c
    | none => False := fun ⟨c, h, q⟩ => by
  subst h
  exact q
theorem if_tf {c : Bool} {p q : Prop} (h : c = true → p) (k : c = false → q) : if c = true then p else q := by
  cases c with
  | true => exact h rfl
  | false => exact if_f rfl (k rfl)
theorem if_dec {c : Prop} [Decidable c] {p q : Prop} (h : c → p) (k : ¬ c → q) : if decide c = true then p else q := if_tf (fun e => h (of_decide_eq_true e)) fun e => k (of_decide_eq_false e)
section
variable {g : DTG} {tb : DTS} {D : DEnds} {c : DTT}
theorem loop_ind (I : List PyData → Env → Prop) (hs : ∀ (x : PyData) (r : List PyData) (ρ : Env) (N : Env → Prop), I (x :: r) ρ → (∀ ρ', I r ρ' → N ρ') → g (.d x) ρ fun ρ1 => tb { D with nx := N, ct := N, bk := D.nx } ρ1) (hd : ∀ ρ, I [] ρ → D.nx ρ) :
    ∀ (xs : List PyData) (ρ : Env), I xs ρ → loopL g tb D xs ρ
  | [], ρ, h => hd ρ h
  | x :: r, ρ, h => hs x r ρ _ h fun ρ' h' => loop_ind I hs hd r ρ' h'
theorem loop_at {xs : List PyData} (I : Nat → Env → Prop) {ρ : Env} (h0 : I 0 ρ) (hs : ∀ (i : Nat) (x : PyData) (ρ : Env) (N : Env → Prop), xs[i]? = some x → I i ρ → (∀ ρ', I (i + 1) ρ' → N ρ') → g (.d x) ρ fun ρ1 => tb { D with nx := N, ct := N, bk := D.nx } ρ1)
    (hd : ∀ ρ, I xs.length ρ → D.nx ρ) : loopL g tb D xs ρ := by
  refine loop_ind (fun r ρ => ∃ i, i + r.length = xs.length ∧ xs.drop i = r ∧ I i ρ) (fun x r ρ N ⟨i, h1, h2, h3⟩ hN => ?_) (fun ρ ⟨i, h1, _, h3⟩ => hd ρ (by rw [← h1]; exact h3)) xs ρ ⟨0, by simp, rfl, h0⟩
  have hx : xs[i]? = some x := by
    have := congrArg List.head? h2
    rw [List.head?_drop] at this
    exact this
  refine hs i x ρ N hx h3 fun ρ' h' => hN ρ' ⟨i + 1, by rw [List.length_cons] at h1; omega, ?_, h'⟩
  rw [← List.tail_drop, h2]
  rfl
theorem loop_range {lo : Int} {n : Nat} (I : Nat → Env → Prop) {ρ : Env} (h0 : I 0 ρ) (hs : ∀ (i : Nat) (ρ : Env) (N : Env → Prop), i < n → I i ρ → (∀ ρ', I (i + 1) ρ' → N ρ') → g (.d (.int (lo + (i : Int)))) ρ fun ρ1 => tb { D with nx := N, ct := N, bk := D.nx } ρ1)
    (hd : ∀ ρ, I n ρ → D.nx ρ) : loopL g tb D ((List.range n).map fun k : Nat => PyData.int (lo + (k : Int))) ρ := by
  refine loop_at I h0 (fun i x ρ N hx h hN => ?_) (fun ρ h => hd ρ (by rw [List.length_map, List.length_range] at h; exact h))
  rw [List.getElem?_map] at hx
  by_cases hi : i < n
  · rw [List.getElem?_range hi] at hx
    cases hx
    exact hs i ρ N hi h hN
  · rw [List.getElem?_eq_none (by simpa using hi)] at hx
    cases hx
end
def addO {α : Type} (acc : List α) : Option α → List α
  | some y => acc ++ [y]
  | none => acc
section
variable {turn : PyData → (Option PyData → Prop) → Prop} {Q : List PyData → Prop}
theorem comp_at {xs : List PyData} (I : Nat → List PyData → Prop) (h0 : I 0 []) (hs : ∀ (i : Nat) (x : PyData) (acc : List PyData) (k : Option PyData → Prop), xs[i]? = some x → I i acc → (∀ o, I (i + 1) (addO acc o) → k o) → turn x k)
    (hd : ∀ acc, I xs.length acc → Q acc) : compL turn xs [] Q := by
  have go : ∀ (r : List PyData) (i : Nat) (acc : List PyData), i + r.length = xs.length → xs.drop i = r → I i acc → compL turn r acc Q := fun r => by
    induction r with
    | nil => intro i acc h1 _ h; exact hd acc (by rw [← h1]; exact h)
    | cons x r ih =>
      intro i acc h1 h2 h
      have hx : xs[i]? = some x := by
        have := congrArg List.head? h2
        rw [List.head?_drop] at this
        exact this
      refine hs i x acc _ hx h fun o ho => ih (i + 1) _ (by rw [List.length_cons] at h1; omega) ?_ ?_
      · rw [← List.tail_drop, h2]
        rfl
      · cases o <;> exact ho
  exact go xs 0 [] (by simp) rfl h0
/-- each item its own -/
theorem comp_map {xs : List PyData} (f : PyData → PyData) (hs : ∀ (x : PyData) (k : Option PyData → Prop), x ∈ xs → k (some (f x)) → turn x k) (hd : Q (xs.map f)) : compL turn xs [] Q := by
  refine comp_at (fun i acc => acc = (xs.take i).map f) rfl (fun i x acc k hx h hk => hs x k (List.mem_of_getElem? hx) (hk _ ?_)) (fun acc h => by rw [List.take_length] at h; rw [h]; exact hd)
  rw [h, List.take_add_one, hx]
  simp [addO]
/-- those that p holds of -/
theorem comp_filter {xs : List PyData} (p : PyData → Bool) (f : PyData → PyData) (hs : ∀ (x : PyData) (k : Option PyData → Prop), x ∈ xs → (p x = true → k (some (f x))) → (p x = false → k none) → turn x k) (hd : Q ((xs.filter p).map f)) : compL turn xs [] Q := by
  refine comp_at (fun i acc => acc = ((xs.take i).filter p).map f) rfl (fun i x acc k hx h hk => hs x k (List.mem_of_getElem? hx) (fun e => hk _ ?_) fun e => hk _ ?_) (fun acc h => by rw [List.take_length] at h; rw [h]; exact hd)
  · rw [h, List.take_add_one, hx]
    simp [addO, List.filter_append, e]
  · rw [h, List.take_add_one, hx]
    simp [addO, List.filter_append, e]
/-- any values that P holds of -/
theorem comp_any {xs : List PyData} (P : PyData → Prop) (hs : ∀ (x : PyData) (k : Option PyData → Prop), x ∈ xs → (∀ y, P y → k (some y)) → turn x k) (hd : ∀ ys : List PyData, ys.length = xs.length → (∀ y ∈ ys, P y) → Q ys) : compL turn xs [] Q := by
  refine comp_at (fun i acc => acc.length = i ∧ ∀ y ∈ acc, P y) ⟨rfl, fun y h => by cases h⟩ (fun i x acc k hx h hk => hs x k (List.mem_of_getElem? hx) fun y hy => hk _ ⟨?_, fun z hz => ?_⟩) (fun acc h => hd acc h.1 h.2)
  · simp [addO, h.1]
  · rcases List.mem_append.mp hz with hz | hz
    · exact h.2 z hz
    · rw [List.mem_singleton.mp hz]; exact hy
end
section
variable {turn : PyData → (Option (Key × PyData) → Prop) → Prop} {Q : List (Key × PyData) → Prop}
def putO (acc : List (Key × PyData)) : Option (Key × PyData) → List (Key × PyData)
  | some p => putD acc p.1 p.2
  | none => acc
theorem compD_at {xs : List PyData} (I : Nat → List (Key × PyData) → Prop) (h0 : I 0 []) (hs : ∀ (i : Nat) (x : PyData) (acc : List (Key × PyData)) (k : Option (Key × PyData) → Prop), xs[i]? = some x → I i acc → (∀ o, I (i + 1) (putO acc o) → k o) → turn x k)
    (hd : ∀ acc, I xs.length acc → Q acc) : compD turn xs [] Q := by
  have go : ∀ (r : List PyData) (i : Nat) (acc : List (Key × PyData)), i + r.length = xs.length → xs.drop i = r → I i acc → compD turn r acc Q := fun r => by
    induction r with
    | nil => intro i acc h1 _ h; exact hd acc (by rw [← h1]; exact h)
    | cons x r ih =>
      intro i acc h1 h2 h
      have hx : xs[i]? = some x := by
        have := congrArg List.head? h2
        rw [List.head?_drop] at this
        exact this
      refine hs i x acc _ hx h fun o ho => ih (i + 1) _ (by rw [List.length_cons] at h1; omega) ?_ ?_
      · rw [← List.tail_drop, h2]
        rfl
      · cases o <;> exact ho
  exact go xs 0 [] (by simp) rfl h0
end
/-! ### rows of ints are compared -/
theorem lay_ints : ∀ l : List Int, PyData.canLayAll0 (l.map PyData.int) = true ∧ PyData.depthAll (l.map PyData.int) ≤ 1
  | [] => ⟨rfl, by decide⟩
  | x :: r => by
    have ih := lay_ints r
    rw [List.map_cons]
    exact ⟨by simp [PyData.canLayAll0, PyData.canLay0, ih.1], by simp only [PyData.depthAll, PyData.depth]; omega⟩
theorem shaped_ints (l : List Int) : SeqAt.shaped (.tuple (l.map PyData.int)) = true ∧ SeqAt.shaped (.list (l.map PyData.int)) = true := by
  have h1 := (lay_ints l).1
  have h2 := (lay_ints l).2
  have h3 : (PyData.tuple (l.map PyData.int)).depth ≤ 64 := by simp only [PyData.depth]; omega
  have h4 : (PyData.tuple (l.map PyData.int)).canLay0 = true := by simp only [PyData.canLay0, h1]
  have h5 : (PyData.list (l.map PyData.int)).depth ≤ 64 := by simp only [PyData.depth]; omega
  have h6 : (PyData.list (l.map PyData.int)).canLay0 = true := by simp only [PyData.canLay0, h1]
  unfold SeqAt.shaped
  exact ⟨by rw [h4, decide_eq_true h3]; rfl, by rw [h6, decide_eq_true h5]; rfl⟩
end DL
set_option maxHeartbeats 1000000
namespace Q47
open PySem PySem.Spec
open PyProof.Rows hiding St
open L2 DL
def topS (i : Nat) : Stmt := PySem.Challenge.pw_quotientcells_k47_outputs_of_any_logic.main.body.getD i (.Pass ⟨0, 0, 0, 0⟩)
abbrev s_law_draw : Stmt := topS 32
theorem sc_law_draw : FnScope ["deck", "many", "figure", "cell"] ["deck", "many"] (defScope s_law_draw) := ⟨rfl, rfl, rfl, by decide +kernel, rfl, by decide +kernel, by decide +kernel⟩
section
variable {P : Program} {w : World} {K : PySem.W.Frag} {mg : Str → Option Value} {base : Heap} {f : Addr} {fd : FuncData}
theorem ok_law_draw (F : Fun K "_law_draw" "_law_draw" s_law_draw f fd) (mi : mg "int" = none) (mm : mg "max" = none) : FnG P w K mg base 1 f fd ["deck", "many"] (spD K mg 2 (SDraw "left")) := by
  refine fn_ts F sc_law_draw (fun vs H Q E h => h.1) fun cdv A outer s H E vs Q hr hG h => ⟨_,
    pss_cons (ps_asg (pe_op op_add (pe_dget (hu_of hr) (pv 0) pe_str (fun _ _ => rfl)) pe_int) (pg_sub (pv 0) pe_str (set_dict (hu_of hr))))
    (pss_cons (ps_set (i := 2) sc_law_draw.nd rfl (.inl rfl) (pe_op op_add (pe_dget (hu_of hr) (pv 0) pe_str (fun _ _ => rfl)) (pe_op opr_mul pe_int (pe_dget (hu_of hr) (pv 0) pe_str (fun _ _ => rfl)))))
    (pss_cons (ps_if (pt_cmpR (op_neD hr.units) (pe_dget (hu_of hr) (pv 0) pe_str (fun _ _ => rfl)) (pe_lst pa_nil) (nomark _))
        (pss_cons (ps_set (i := 3) sc_law_draw.nd rfl (.inl rfl) (pe_bm0 PySem.F.plainAttrs_list PySem.F.slot_list_pop PySem.F.type_list_pop mt_pop (pe_dget (hu_of hr) (pv 0) pe_str (fun _ _ => rfl))))
        (pss_cons (ps_if (pt_cmpR op_ge (pv 3) (pe_op op_pow pe_int pe_int) (nomark _))
          (pss_cons (ps_expr (pe_bm PySem.F.plainAttrs_list PySem.F.slot_list_append PySem.F.type_list_append mt_append (pe_dget (hu_of hr) (pv 0) pe_str (fun _ _ => rfl)) (pa_cons (pe_op opr_div (pv 3) (pe_callB (call_max2 rfl) (by rfl) mm (by decide +kernel) (pa_cons pe_int (pa_cons (pv 1) pa_nil)))) pa_nil)))
          (pss_one (ps_ret (pe_op op_modN (pe_callTy call_int1 (by rfl) mi (by decide +kernel) (pa_cons (pv 3) pa_nil)) (pv 1))))) pss_nil)
        (pss_one (ps_set (i := 2) sc_law_draw.nd rfl (.inl rfl) (pe_op op_add (pv 2) (pe_op op_modN (pe_callTy call_int1 (by rfl) mi (by decide +kernel) (pa_cons (pv 3) pa_nil)) pe_int)))))) pss_nil)
    (pss_cons (ps_set (i := 2) sc_law_draw.nd rfl (.inl rfl) (pe_op op_modN (pe_callTy call_int1 (by rfl) mi (by decide +kernel) (pa_cons (pe_op op_add (pe_op opr_mul (pv 2) pe_int) pe_int) pa_nil)) pe_int))
    (pss_cons (ps_set (i := 2) sc_law_draw.nd rfl (.inl rfl) (pe_op op_modN (pe_callTy call_int1 (by rfl) mi (by decide +kernel) (pa_cons (pe_op op_add (pe_op op_add (pe_op opr_mul (pv 2) (pv 2)) (pe_op opr_mul pe_int (pe_dget (hu_of hr) (pv 0) pe_str (fun _ _ => rfl)))) pe_int) pa_nil)) pe_int))
    (pss_cons (ps_set (i := 2) sc_law_draw.nd rfl (.inl rfl) (pe_op op_modN (pe_callTy call_int1 (by rfl) mi (by decide +kernel) (pa_cons (pe_op opr_mul (pv 2) pe_int) pa_nil)) pe_int))
    (pss_one (ps_ret (pe_op op_modN (pe_callTy call_int1 (by rfl) mi (by decide +kernel) (pa_cons (pe_op opr_div (pv 2) pe_int) pa_nil)) (pv 1))))))))), ?_⟩
  obtain ⟨hl, dk, B, as, d1, d2, d3, ra, n, rfl, n0, nl, q⟩ := h
  cases ra with
  | cons r1 rr =>
    cases rr with
    | cons r2 rr =>
      cases rr
      obtain ⟨on, key, rfl⟩ := r1
      obtain rfl := repInt (dk := dk) r2
      obtain ⟨on', ad, al, dkey⟩ := dk
      have on : on' = true := on
      subst on
      have key : dkey = "left" := key
      subst key
      obtain ⟨nad, left, m, c, ha, hb, hle⟩ := d1 rfl
      have nad : ad ≠ al := nad
      have ha : H ad = some (.dK [(.inr "left", .ref al), (.inr "mixed", .int m), (.inr "draws", .int c)]) := ha
      have hb : H al = some (.lst (left.map V.int)) := hb
      -- what stands at the end
      let Fin : Hp → Prop := fun H' => (∃ (l2 : List Int) (c2 : Int), l2.length ≤ 63 ∧ H' ad = some (.dK [(.inr "left", .ref al), (.inr "mixed", .int m), (.inr "draws", .int c2)]) ∧ H' al = some (.lst (l2.map V.int))) ∧ ∀ a o, H a = some o → a ≠ ad → a ≠ al → H' a = some o
      have done : ∀ {H' : Hp} {i : Int}, Fin H' → Q (.int (i.fmod n)) H' := fun {H' i} ⟨⟨l2, c2, hl2, h1, h2⟩, h3⟩ => by
        refine q (i.fmod n) (Int.fmod_nonneg_of_pos i n0) (Int.fmod_lt_of_pos i n0) _ H' ⟨fun a o e nd _ => h3 a o e (fun z => nd ⟨rfl, .inl z⟩) fun z => nd ⟨rfl, .inr z⟩, fun a e => ?_, fun _ => ⟨nad, l2, m, c2, h1, h2, hl2⟩⟩ (.int _)
        by_cases e1 : a = ad
        · rw [e1, h1]; simp
        · by_cases e2 : a = al
          · rw [e2, h2]; simp
          · cases e3 : H a with
            | none => exact absurd e3 e
            | some o => rw [h3 a o e3 e1 e2]; simp
      have get : ∀ {H' : Hp} {c2 : Int}, H' ad = some (.dK [(.inr "left", .ref al), (.inr "mixed", .int m), (.inr "draws", .int c2)]) → DGet H' ad (.str "left") (some (.ref al)) ∧ DGet H' ad (.str "mixed") (some (.int m)) ∧ DGet H' ad (.str "draws") (some (.int c2)) :=
        fun {H' c2} e => ⟨deck_get (dk := ⟨true, ad, al, "left"⟩) e (by with_unfolding_all rfl), deck_get (dk := ⟨true, ad, al, "left"⟩) e (by with_unfolding_all rfl), deck_get (dk := ⟨true, ad, al, "left"⟩) e (by with_unfolding_all rfl)⟩
      have up : DPut H ad (.str "draws") (.int (c + 1)) (upd H ad (.dK [(.inr "left", .ref al), (.inr "mixed", .int m), (.inr "draws", .int (c + 1))])) := by
        refine .inl ⟨_, .inr "draws", ha, rfl, by show (3 : Nat) < sizeLine; rw [sizeLine_eq]; decide, ?_⟩
        with_unfolding_all rfl
      refine ⟨.ref ad, rfl, ad, .int c, rfl, (get ha).2.2, c, 1, rfl, rfl, .ref ad, rfl, ad, _, rfl, up, ?_⟩
      have fin1 : Fin (upd H ad (.dK [(.inr "left", .ref al), (.inr "mixed", .int m), (.inr "draws", .int (c + 1))])) := ⟨⟨left, c + 1, hle, upd_same, by rw [upd_ne nad.symm]; exact hb⟩, fun a o e n1 _ => by rw [upd_ne n1]; exact e⟩
      generalize upd H ad (.dK [(.inr "left", .ref al), (.inr "mixed", .int m), (.inr "draws", .int (c + 1))]) = H1 at fin1 ⊢
      obtain ⟨⟨l1, c1, hl1, a1, b1⟩, k1⟩ := fin1
      refine ⟨.ref ad, rfl, ad, .int m, rfl, (get a1).2.1, .ref ad, rfl, ad, .int c1, rfl, (get a1).2.2, _, _, rfl, rfl, .inl (by decide), _, _, rfl, rfl, ?_⟩
      have small : ∀ {i j : Int}, 0 < j → j.natAbs < 2 ^ 60 → MulC (i.fmod j) (i.fmod j) := fun {i j} h h2 => by
        have g1 := Int.fmod_nonneg_of_pos i h
        have g2 := Int.fmod_lt_of_pos i h
        exact .inl (by omega)
      -- the test
      refine ⟨.ref ad, rfl, ad, .ref al, rfl, (get a1).1, Nat.zero_le _, fun p hp => ?_⟩
      have np1 : ad ≠ p := ne_of_none a1 hp
      have np2 : al ≠ p := ne_of_none b1 hp
      have hH2 : ∃ H2 : Hp, H2 = upd H1 p (.lst []) := ⟨_, rfl⟩
      obtain ⟨H2, eH2⟩ := hH2
      rw [← eH2]
      have a2 : H2 ad = some (.dK [(.inr "left", .ref al), (.inr "mixed", .int m), (.inr "draws", .int c1)]) := by rw [eH2, upd_ne np1]; exact a1
      have b2 : H2 al = some (.lst (l1.map V.int)) := by rw [eH2, upd_ne np2]; exact b1
      have k2 : ∀ a o, H a = some o → a ≠ ad → a ≠ al → H2 a = some o := fun a o e n1 n2 => by
        have e1 := k1 a o e n1 n2
        rw [eH2, upd_ne (ne_of_none e1 hp)]
        exact e1
      have dint : ∀ l : List Int, DpAll K H2 (l.map V.int) (l.map PyData.int) := fun l => by
        induction l with
        | nil => exact .nil
        | cons x r ih => exact .cons (.int x) ih
      have cint : ∀ l : List Int, PyData.canLayAll0 (l.map PyData.int) = true ∧ PyData.depthAll (l.map PyData.int) ≤ 1 := fun l => by
        induction l with
        | nil => exact ⟨rfl, by decide⟩
        | cons x r ih => exact ⟨by rw [List.map_cons]; simp [PyData.canLayAll0, PyData.canLay0, ih.1], by rw [List.map_cons]; simp only [PyData.depthAll, PyData.depth]; omega⟩
      refine ⟨.list (l1.map PyData.int), .list [], .lst (.inl (.inl b2)) (dint l1), .lst (.inl (.inl (by rw [eH2, upd_same]))) .nil, ?_, by decide, _, rfl, ?_⟩
      · have h1 := (cint l1).1
        have h2 := (cint l1).2
        have h3 : (PyData.list (l1.map PyData.int)).depth ≤ 64 := by simp only [PyData.depth]; omega
        have h4 : (PyData.list (l1.map PyData.int)).canLay0 = true := by simp only [PyData.canLay0, h1]
        unfold SeqAt.shaped
        rw [h4, decide_eq_true h3]
        rfl
      -- what follows
      let rMd : R2 := rI (fun _ j => j ≠ 0) fun i j => .int (i.fmod j)
      let rMl : R2 := rI MulC fun i j => .int (i * j)
      let rAd : R2 := rI0 fun i j => .int (i + j)
      let tI : TE → TE := fun t => tCB (fun xs H Q => (∃ i, xs = [V.int i] ∧ Q (.int i) H) ∨ ∃ k, xs = [V.bl k] ∧ Q (.int (if k = true then 1 else 0)) H) (tCons t tNil)
      have tail : ∀ {H3 : Hp} {fg : Int} {x3 : Option V}, Fin H3 →
          tSeq (tAsg (tOp rMd (tI (tOp rAd (tOp rMl (tVar 2) (tC (.int 40014))) (tC (.int 91)))) (tC (.int 2147483563))) (gName 2))
          (tSeq (tAsg (tOp rMd (tI (tOp rAd (tOp rAd (tOp rMl (tVar 2) (tVar 2)) (tOp rMl (tC (.int 52774)) (tDGet (tVar 0) (tC (.str "draws"))))) (tC (.int 17)))) (tC (.int 2147483399))) (gName 2))
          (tSeq (tAsg (tOp rMd (tI (tOp rMl (tVar 2) (tC (.int 40692)))) (tC (.int 2147483647))) (gName 2))
          (tRet (tOp rMd (tI (tOp (rI DivC fun i j => .int (i.fdiv j)) (tVar 2) (tC (.int 64)))) (tVar 1)))))
          { nx := fun _ H' => Q .non H', rt := Q } [some (.ref ad), some (.int n), some (.int fg), x3] H3 := fun {H3 fg x3} fin => by
        obtain ⟨⟨l3, c3, hl3, a3, b3⟩, k3⟩ := fin
        refine ⟨.int fg, rfl, _, _, rfl, rfl, .inr (.inl (by decide)), _, _, rfl, rfl, .inl ⟨_, rfl, _, _, rfl, rfl, by show (_ : Int) ≠ 0; decide, ?_⟩⟩
        refine ⟨_, rfl, _, rfl, _, _, rfl, rfl, small (by decide) (by decide), .ref ad, rfl, ad, .int c3, rfl, (get a3).2.2, _, _, rfl, rfl, .inl (by decide), _, _, rfl, rfl, _, _, rfl, rfl, .inl ⟨_, rfl, _, _, rfl, rfl, by show (_ : Int) ≠ 0; decide, ?_⟩⟩
        refine ⟨_, rfl, _, _, rfl, rfl, .inr (.inl (by decide)), .inl ⟨_, rfl, _, _, rfl, rfl, by show (_ : Int) ≠ 0; decide, ?_⟩⟩
        exact ⟨_, rfl, _, _, rfl, rfl, .inl ⟨by decide, by decide⟩, .inl ⟨_, rfl, .int n, rfl, _, _, rfl, rfl, by show (_ : Int) ≠ 0; omega, done ⟨⟨l3, c3, hl3, a3, b3⟩, k3⟩⟩⟩
      have eqn : PyData.eqv (.list (l1.map PyData.int)) (.list []) = l1.isEmpty := by cases l1 <;> rfl
      rw [eqn]
      cases hl1e : l1 with
      | nil => exact if_f rfl (tail ⟨⟨l1, c1, hl1, a2, b2⟩, k2⟩)
      | cons z0 zs =>
        rw [← hl1e]
        have hne : l1 ≠ [] := by rw [hl1e]; simp
        have hlast : l1 = l1.dropLast ++ [l1.getLast hne] := (List.dropLast_concat_getLast hne).symm
        generalize l1.getLast hne = z at hlast
        have hget : (l1.map V.int)[(l1.map V.int).length - 1]? = some (.int z) := by
          rw [hlast]; simp
        have dl : (l1.map V.int).dropLast = l1.dropLast.map V.int := (List.map_dropLast).symm
        refine if_t (by rw [hl1e]; rfl) ?_
        refine ⟨.ref ad, rfl, ad, .ref al, rfl, (get a2).1, .inl ⟨rfl, _, .inl (.inl b2)⟩, al, _, .int z, rfl, rfl, b2, hget, ?_⟩
        rw [dl]
        have a4 : (upd H2 al (.lst (l1.dropLast.map V.int))) ad = some (.dK [(.inr "left", .ref al), (.inr "mixed", .int m), (.inr "draws", .int c1)]) := by rw [upd_ne nad]; exact a2
        have b4 : (upd H2 al (.lst (l1.dropLast.map V.int))) al = some (.lst (l1.dropLast.map V.int)) := upd_same
        have k4 : ∀ a o, H a = some o → a ≠ ad → a ≠ al → (upd H2 al (.lst (l1.dropLast.map V.int))) a = some o := fun a o e n1 n2 => by rw [upd_ne n2]; exact k2 a o e n1 n2
        have hl4 : l1.dropLast.length + 1 ≤ 63 := by
          have : l1.length = l1.dropLast.length + 1 := by rw [hlast]; simp
          omega
        generalize upd H2 al (.lst (l1.dropLast.map V.int)) = H4 at a4 b4 k4 ⊢
        generalize l1.dropLast = l4 at b4 hl4 ⊢
        refine ⟨.int z, rfl, _, _, rfl, rfl, ⟨by decide, by decide, by decide⟩, _, _, rfl, rfl, _, rfl, ?_⟩
        by_cases hz : (10 : Int) ^ (18 : Int).toNat ≤ z
        · refine if_t (decide_eq_true hz) ?_
          refine ⟨.ref ad, rfl, ad, .ref al, rfl, (get a4).1, .inl ⟨rfl, _, .inl (.inl b4)⟩, .int z, rfl, .int n, rfl, _, _, rfl, _, _, rfl, rfl, ?_, al, _, _, rfl, rfl, b4, ?_, ?_⟩
          · by_cases h2 : n > 2
            · rw [if_pos h2]
              exact .inr ⟨n0, nl⟩
            · rw [if_neg h2]
              exact .inl ⟨by decide, by decide⟩
          · rw [List.length_map, sizeLine_eq]
            omega
          · refine ⟨.int z, rfl, .inl ⟨_, rfl, .int n, rfl, _, _, rfl, rfl, by show (_ : Int) ≠ 0; omega, done ?_⟩⟩
            refine ⟨⟨l4 ++ [z.fdiv (if n > 2 then n else 2)], c1, by rw [List.length_append]; exact hl4, by rw [upd_ne nad]; exact a4, by rw [upd_same, List.map_append]; rfl⟩, fun a o e n1 n2 => by rw [upd_ne n2]; exact k4 a o e n1 n2⟩
        · refine if_f (decide_eq_false hz) ?_
          refine ⟨_, rfl, .int z, rfl, .inl ⟨_, rfl, _, _, rfl, rfl, by show (_ : Int) ≠ 0; decide, _, _, rfl, rfl, ?_⟩⟩
          exact tail ⟨⟨l4, c1, by omega, a4, b4⟩, k4⟩
abbrev s_law_deck : Stmt := topS 31
theorem sc_law_deck : FnScope ["script", "mixed", "cell"] ["script"] (defScope s_law_deck) := ⟨rfl, rfl, rfl, by decide +kernel, rfl, by decide +kernel, by decide +kernel⟩
theorem ok_law_deck (F : Fun K "_law_deck" "_law_deck" s_law_deck f fd) (mi : mg "int" = none) : FnG P w K mg base 1 f fd ["script"] (spDeck K "left") := by
  refine fn_ts F sc_law_deck (fun vs H Q E h => by obtain ⟨a, ns, rfl, _⟩ := h; rfl) fun cdv A outer s H E vs Q hr hG h => ⟨_,
    pss_cons (ps_set (i := 1) sc_law_deck.nd rfl (.inl rfl) pe_int)
    (pss_cons (ps_for (passes_of rfl) rfl (pi_list (pe_slice sl_list (pv 0) po_none (po_some pe_int))) (pg_name (i := 2) sc_law_deck.nd rfl (.inl rfl))
      (pss_one (ps_set (i := 1) sc_law_deck.nd rfl (.inl rfl) (pe_op op_modN (pe_callTy call_int1 (by rfl) mi (by decide +kernel) (pa_cons (pe_op op_add (pe_op op_add (pe_op opr_mul (pv 1) pe_int) (pe_op op_modN (pe_callTy call_int1 (by rfl) mi (by decide +kernel) (pa_cons (pv 2) pa_nil)) pe_int)) pe_int) pa_nil)) pe_int))))
    (pss_one (ps_ret (pe_disp (pps_cons pe_str (pe_revL (pe_lc (own := [("cell", 2)]) rfl sc_law_deck.nd (pi_list (pe_slice sl_list (pv 0) po_none (po_some pe_int)))
        (show BlkOk ["script", "mixed", "cell"] (defScope s_law_deck) _ [("cell", 2)] from ⟨rfl, by decide +kernel, by decide +kernel, by decide +kernel, by decide +kernel⟩)
        (fun _ _ _ _ _ => pg_name (i := 2) sc_law_deck.nd rfl (.inl rfl)) (fun _ _ _ _ _ => pts_nil) (fun _ _ _ _ _ => pe_callTy call_int1 (by rfl) mi (by decide +kernel) (pa_cons (pv 2) pa_nil))))
        (pps_cons pe_str (pv 1) (pps_cons pe_str pe_int pps_nil))) rfl rfl (by simp) (by decide))))), ?_⟩
  obtain ⟨a, ns, rfl, hS, hlen, q⟩ := h
  have cut : ∀ (l : List Int) (lo hi : Option Int), l.length ≤ 63 → ∃ ms : List Int, cutV (l.map V.int) lo hi = ms.map V.int ∧ ms.length ≤ 63 := fun l lo hi hl => by
    unfold cutV
    rw [← List.map_drop, ← List.map_take]
    exact ⟨_, rfl, by rw [List.length_take, List.length_drop]; omega⟩
  obtain ⟨ms, em, hm⟩ := cut ns none (some 63) hlen
  refine ⟨.ref a, rfl, 63, rfl, a, _, rfl, hS, fun c hc => ?_⟩
  rw [em]
  have seqA : ∀ {H1 : Hp}, (∀ b o, H b = some o → H1 b = some o) → SqL K H1 a (ns.map V.int) := fun {H1} g => (show Same H H1 from g).seq hS
  have g1 : ∀ b o, H b = some o → (upd H c (.lst (ms.map V.int))) b = some o := fun b o e => by rw [upd_ne (ne_of_none e hc)]; exact e
  have hL : (upd H c (.lst (ms.map V.int))) c = some (.lst (ms.map V.int)) := upd_same
  generalize upd H c (.lst (ms.map V.int)) = H1 at g1 hL ⊢
  refine ⟨c, rfl, ⟨_, .inl (.inl hL)⟩, for_list (xs := ms.map V.int) (fun _ σ H' => H' = H1 ∧ ∃ fg x2, σ = [some (.ref a), some (.int fg), x2]) ⟨rfl, _, _, rfl⟩ (fun i σ H' _ ⟨e, _⟩ => by rw [e]; exact .inl (.inl hL)) ?_ ?_⟩
  · rintro i y σ H' hi ⟨rfl, fg, x2, rfl⟩
    obtain ⟨z, rfl⟩ : ∃ z, y = V.int z := by
      rw [List.getElem?_map] at hi
      cases e : ms[i]? with
      | none => rw [e] at hi; cases hi
      | some z => rw [e] at hi; cases hi; exact ⟨z, rfl⟩
    exact ⟨.int fg, rfl, _, _, rfl, rfl, .inr (.inl (by decide)), .int z, rfl, .inl ⟨_, rfl, _, _, rfl, rfl, by show (_ : Int) ≠ 0; decide, _, _, rfl, rfl, _, _, rfl, rfl, .inl ⟨_, rfl, _, _, rfl, rfl, by show (_ : Int) ≠ 0; decide, rfl, _, _, rfl⟩⟩⟩
  · rintro σ H' ⟨rfl, fg, x2, rfl⟩
    -- the dict
    intro p hp
    have g2 : ∀ b o, H b = some o → (upd H' p (.dK [])) b = some o := fun b o e => by rw [upd_ne (ne_of_none (g1 b o e) hp)]; exact g1 b o e
    have hP : (upd H' p (.dK [])) p = some (.dK []) := upd_same
    generalize upd H' p (.dK []) = H2 at g2 hP ⊢
    refine ⟨.ref a, rfl, 63, rfl, a, _, rfl, seqA g2, fun c2 hc2 => ?_⟩
    rw [em]
    have g3 : ∀ b o, H2 b = some o → (upd H2 c2 (.lst (ms.map V.int))) b = some o := fun b o e => by rw [upd_ne (ne_of_none e hc2)]; exact e
    have hL2 : (upd H2 c2 (.lst (ms.map V.int))) c2 = some (.lst (ms.map V.int)) := upd_same
    generalize upd H2 c2 (.lst (ms.map V.int)) = H3 at g3 hL2 ⊢
    refine ⟨c2, rfl, ⟨_, .inl (.inl hL2)⟩, fun D hD => lc_list (xs := ms.map V.int) (fun i H' => H' c2 = some (.lst (ms.map V.int)) ∧ H' p = some (.dK []) ∧ H' D = some (.lst ((ms.take i).map V.int))) ⟨?_, ?_, upd_same⟩ (fun i H' _ e => .inl (.inl e.1)) ?_ ?_⟩
    · rw [upd_ne (ne_of_none hL2 hD)]; exact hL2
    · rw [upd_ne (ne_of_none (g3 _ _ hP) hD)]; exact g3 _ _ hP
    · rintro i y H' hi ⟨k1, k2, k3⟩
      obtain ⟨z, hz, rfl⟩ : ∃ z, ms[i]? = some z ∧ y = V.int z := by
        rw [List.getElem?_map] at hi
        cases e : ms[i]? with
        | none => rw [e] at hi; cases hi
        | some z => rw [e] at hi; cases hi; exact ⟨z, rfl, rfl⟩
      have nD1 : c2 ≠ D := fun e => by rw [e, hD] at hL2; cases hL2
      have nD2 : p ≠ D := fun e => by rw [e] at hP; rw [g3 _ _ hP] at hD; cases hD
      refine ⟨rfl, .int z, rfl, .inl ⟨_, rfl, _, k3, ?_, ?_, ?_, ?_⟩⟩
      · rw [List.length_map, List.length_take, sizeLine_eq]; omega
      · rw [upd_ne nD1]; exact k1
      · rw [upd_ne nD2]; exact k2
      · rw [upd_same, List.take_add_one, hz, List.map_append]
        rfl
    · rintro H' ⟨k1, k2, k3⟩
      rw [List.length_map, List.take_length] at k3
      refine ⟨D, _, rfl, .inl (.inl k3), fun r hr2 => ?_⟩
      have nr : p ≠ r := fun e => by rw [e, hr2] at k2; cases k2
      refine ⟨.int fg, rfl, ?_, [(.inr "left", .ref r), (.inr "mixed", .int fg), (.inr "draws", .int 0)], rfl, by show (3 : Nat) ≤ 15; decide, ?_⟩
      · rw [upd_ne nr]; exact k2
      · have em : mergeK [] ([(.inr "left", V.ref r), (.inr "mixed", .int fg), (.inr "draws", .int 0)] : List (Key × V)) = ([(.inr "left", V.ref r), (.inr "mixed", .int fg), (.inr "draws", .int 0)] : List (Key × V)) := by with_unfolding_all rfl
        rw [em]
        refine q ⟨true, p, r, "left"⟩ _ rfl rfl fun _ => ⟨nr, ms.reverse, fg, 0, upd_same, ?_, by rw [List.length_reverse]; exact hm⟩
        show (upd _ p _) r = _
        rw [upd_ne nr.symm, upd_same, ← List.map_reverse]
end
end Q47
set_option maxHeartbeats 1000000
namespace Q47
open PySem PySem.Spec
open PyProof.Rows hiding St
open L2 DL
abbrev c_KINDS : PyData := .tuple [.str "one", .str "pair"]
abbrev s__law_deck : Stmt := topS 31
abbrev s_two : Stmt := topS 7
abbrev s_is_integer : Stmt := topS 8
abbrev s_is_word_of : Stmt := topS 10
abbrev s_is_tuple : Stmt := topS 11
abbrev s_figures : Stmt := topS 25
abbrev s_does_match : Stmt := topS 27
abbrev s__law_draw : Stmt := topS 32
abbrev s__law_same : Stmt := topS 34
abbrev s__law_bits : Stmt := topS 39
abbrev s_is_from : Stmt := topS 9
abbrev s_is_scheme_value : Stmt := topS 12
abbrev s_is_digit : Stmt := topS 13
abbrev s_is_cell : Stmt := topS 20
abbrev s_word_of : Stmt := topS 26
abbrev s__law_pick : Stmt := topS 33
abbrev s__law_mixed : Stmt := topS 38
abbrev s__law_due : Stmt := topS 40
abbrev s_is_string : Stmt := topS 14
abbrev s_is_look_value : Stmt := topS 15
abbrev s_is_term : Stmt := topS 22
abbrev s_output_of : Stmt := topS 28
abbrev s__law_scheme : Stmt := topS 35
abbrev s__law_any_logic : Stmt := topS 37
abbrev s__law_cells : Stmt := topS 41
abbrev s_is_row : Stmt := topS 16
abbrev s_is_logic_value : Stmt := topS 23
abbrev s__law_any_machine : Stmt := topS 36
abbrev s_is_machine_value : Stmt := topS 17
abbrev s_need_machine : Stmt := topS 18
abbrev s_need_logic : Stmt := topS 24
abbrev s_output : Stmt := topS 29
abbrev s_law : Stmt := topS 42
/-- what the top has written -/
structure Facts (K : PySem.W.Frag) (mg : Str → Option Value) : Type where
  d__law_deck : DefAt K mg "_law_deck" s__law_deck ["script"]
  d_two : DefAt K mg "two" s_two ["n"]
  d_is_integer : DefAt K mg "is_integer" s_is_integer ["thing"]
  d_is_word_of : DefAt K mg "is_word_of" s_is_word_of ["thing", "words"]
  d_is_tuple : DefAt K mg "is_tuple" s_is_tuple ["thing", "length"]
  d_figures : DefAt K mg "figures" s_figures ["number", "length"]
  d_does_match : DefAt K mg "does_match" s_does_match ["pattern", "word"]
  d__law_draw : DefAt K mg "_law_draw" s__law_draw ["deck", "many"]
  d__law_same : DefAt K mg "_law_same" s__law_same ["told", "due"]
  d__law_bits : DefAt K mg "_law_bits" s__law_bits ["b", "s", "cell"]
  d_is_from : DefAt K mg "is_from" s_is_from ["thing", "least"]
  d_is_scheme_value : DefAt K mg "is_scheme_value" s_is_scheme_value ["thing"]
  d_is_digit : DefAt K mg "is_digit" s_is_digit ["scheme", "thing"]
  d_is_cell : DefAt K mg "is_cell" s_is_cell ["look", "thing"]
  d_word_of : DefAt K mg "word_of" s_word_of ["machine", "b", "cell"]
  d__law_pick : DefAt K mg "_law_pick" s__law_pick ["deck", "some"]
  d__law_mixed : DefAt K mg "_law_mixed" s__law_mixed ["deck", "some"]
  d__law_due : DefAt K mg "_law_due" s__law_due ["machine", "logic", "cell"]
  d_is_string : DefAt K mg "is_string" s_is_string ["scheme", "thing"]
  d_is_look_value : DefAt K mg "is_look_value" s_is_look_value ["thing"]
  d_is_term : DefAt K mg "is_term" s_is_term ["scheme", "length", "thing"]
  d_output_of : DefAt K mg "output_of" s_output_of ["machine", "logic", "cell"]
  d__law_scheme : DefAt K mg "_law_scheme" s__law_scheme ["deck"]
  d__law_any_logic : DefAt K mg "_law_any_logic" s__law_any_logic ["deck", "machine"]
  d__law_cells : DefAt K mg "_law_cells" s__law_cells ["deck", "machine", "b"]
  d_is_row : DefAt K mg "is_row" s_is_row ["scheme", "thing"]
  d_is_logic_value : DefAt K mg "is_logic_value" s_is_logic_value ["machine", "thing"]
  d__law_any_machine : DefAt K mg "_law_any_machine" s__law_any_machine ["deck", "most"]
  d_is_machine_value : DefAt K mg "is_machine_value" s_is_machine_value ["thing"]
  d_need_machine : DefAt K mg "need_machine" s_need_machine ["machine"]
  d_need_logic : DefAt K mg "need_logic" s_need_logic ["machine", "logic"]
  d_output : DefAt K mg "output" s_output ["machine", "logic", "cell"]
  d_law : DefAt K mg "law" s_law ["script"]
  kw_output_cell_logic_machine : KwTo d_output.fd ["machine", "logic", "cell"] ["cell", "logic", "machine"] [2, 1, 0]
  m_all : mg "all" = none
  m_bool : mg "bool" = none
  m_int : mg "int" = none
  m_isinstance : mg "isinstance" = none
  m_len : mg "len" = none
  m_list : mg "list" = none
  m_max : mg "max" = none
  m_min : mg "min" = none
  m_range : mg "range" = none
  m_repr : mg "repr" = none
  m_str : mg "str" = none
  m_tuple : mg "tuple" = none
  m_zip : mg "zip" = none
  a_KINDS : Addr
  g_KINDS : mg "KINDS" = some (.ref a_KINDS)
  r_KINDS : ∀ B H, RepP K B H (.ref a_KINDS) (.tuple [.str "one", .str "pair"])
end Q47
set_option maxHeartbeats 1000000
namespace Q47
open PySem PySem.Spec
open PyProof.Rows hiding St
open L2 DL
section
variable {P : Program} {w : World} {K : PySem.W.Frag} {mg : Str → Option Value} {base : Heap}
theorem sc_two : FnScope ["n"] ["n"] (defScope s_two) := ⟨rfl, rfl, rfl, by decide +kernel, rfl, by decide +kernel, by decide +kernel⟩
def t_two : DTS :=
  (dRet (dOp fShl (dC (.int 1)) (dVar 0)))
def S_two : DL.Spec := bodyS ["n"] 1 t_two
theorem der_two (T : Facts K mg) (cdv : Value) (A : Around) (outer : List PySem.Env) (s : Shared) (H : Hp) (E : XK) (dk : Dk) (hr : Room 0 (A.deeper (envOfC "two" (defScope s_two) s.heap.objs.size T.d_two.a cdv))) (hG : (A.deeper (envOfC "two" (defScope s_two) s.heap.objs.size T.d_two.a cdv)).guards = some []) :
    DSs (cxOf (L2.CX P w) P w K mg base ["n"] "two" (defScope s_two) T.d_two.a cdv A outer s H E) dk (WL E) (defBody s_two) t_two :=
  have tk := takes_of (E := E) (X := cxOf (L2.CX P w) P w K mg base ["n"] "two" (defScope s_two) T.d_two.a cdv A outer s H E) rfl rfl rfl rfl
  (by exact dss_one (by exact ds_ret (by exact de_op opr_shl ops_int de_int (by exact de_var 0))))
theorem ok_two (T : Facts K mg) : FnG P w K mg base 1 T.d_two.a T.d_two.fd ["n"] (spD K mg 1 S_two) := fn_body T.d_two.F sc_two (der_two T)
theorem mono_two (P : Program) (w : World) (base : Heap) (T : Facts K mg) {A : Around} (s : Shared) (hr : Room 1 A) (hG : A.guards = some []) : MonoC S_two := monoBody (der_two (P := P) (w := w) (base := base) T .none A [] s (fun _ => none) (fun _ _ _ => False) ⟨false, 0, 0, ""⟩ (hr.deeper _) hG).mono
theorem sc_is_integer : FnScope ["thing"] ["thing"] (defScope s_is_integer) := ⟨rfl, rfl, rfl, by decide +kernel, rfl, by decide +kernel, by decide +kernel⟩
def t_is_integer : DTS :=
  (dRet (dAndV (dIsi (isiB "int") (dVar 0)) (dNotV (dIsi (isiB "bool") (dVar 0)))))
def S_is_integer : DL.Spec := bodyS ["thing"] 1 t_is_integer
theorem der_is_integer (T : Facts K mg) (cdv : Value) (A : Around) (outer : List PySem.Env) (s : Shared) (H : Hp) (E : XK) (dk : Dk) (hr : Room 0 (A.deeper (envOfC "is_integer" (defScope s_is_integer) s.heap.objs.size T.d_is_integer.a cdv))) (hG : (A.deeper (envOfC "is_integer" (defScope s_is_integer) s.heap.objs.size T.d_is_integer.a cdv)).guards = some []) :
    DSs (cxOf (L2.CX P w) P w K mg base ["thing"] "is_integer" (defScope s_is_integer) T.d_is_integer.a cdv A outer s H E) dk (WL E) (defBody s_is_integer) t_is_integer :=
  have tk := takes_of (E := E) (X := cxOf (L2.CX P w) P w K mg base ["thing"] "is_integer" (defScope s_is_integer) T.d_is_integer.a cdv A outer s H E) rfl rfl rfl rfl
  (by exact dss_one (by exact ds_ret (by exact by exact de_and (by exact de_isi (by rfl) T.m_isinstance (by rfl) T.m_int boot_int (by decide) (by exact de_var 0)) (de_one (by exact de_not (by exact de_isi (by rfl) T.m_isinstance (by rfl) T.m_bool boot_bool (by decide) (by exact de_var 0)))))))
theorem ok_is_integer (T : Facts K mg) : FnG P w K mg base 1 T.d_is_integer.a T.d_is_integer.fd ["thing"] (spD K mg 1 S_is_integer) := fn_body T.d_is_integer.F sc_is_integer (der_is_integer T)
theorem mono_is_integer (P : Program) (w : World) (base : Heap) (T : Facts K mg) {A : Around} (s : Shared) (hr : Room 1 A) (hG : A.guards = some []) : MonoC S_is_integer := monoBody (der_is_integer (P := P) (w := w) (base := base) T .none A [] s (fun _ => none) (fun _ _ _ => False) ⟨false, 0, 0, ""⟩ (hr.deeper _) hG).mono
theorem sc_is_word_of : FnScope ["thing", "words"] ["thing", "words"] (defScope s_is_word_of) := ⟨rfl, rfl, rfl, by decide +kernel, rfl, by decide +kernel, by decide +kernel⟩
def t_is_word_of : DTS :=
  (dRet (dAndV (dIsi (isiB "str") (dVar 0)) (dOp (fIn false) (dVar 0) (dVar 1))))
def S_is_word_of : DL.Spec := bodyS ["thing", "words"] 2 t_is_word_of
theorem der_is_word_of (T : Facts K mg) (cdv : Value) (A : Around) (outer : List PySem.Env) (s : Shared) (H : Hp) (E : XK) (dk : Dk) (hr : Room 0 (A.deeper (envOfC "is_word_of" (defScope s_is_word_of) s.heap.objs.size T.d_is_word_of.a cdv))) (hG : (A.deeper (envOfC "is_word_of" (defScope s_is_word_of) s.heap.objs.size T.d_is_word_of.a cdv)).guards = some []) :
    DSs (cxOf (L2.CX P w) P w K mg base ["thing", "words"] "is_word_of" (defScope s_is_word_of) T.d_is_word_of.a cdv A outer s H E) dk (WL E) (defBody s_is_word_of) t_is_word_of :=
  have tk := takes_of (E := E) (X := cxOf (L2.CX P w) P w K mg base ["thing", "words"] "is_word_of" (defScope s_is_word_of) T.d_is_word_of.a cdv A outer s H E) rfl rfl rfl rfl
  (by exact dss_one (by exact ds_ret (by exact by exact de_and (by exact de_isi (by rfl) T.m_isinstance (by rfl) T.m_str boot_str (by decide) (by exact de_var 0)) (de_one (by exact de_cmp opr_in ops_in (by exact de_var 0) (by exact de_var 1))))))
theorem ok_is_word_of (T : Facts K mg) : FnG P w K mg base 1 T.d_is_word_of.a T.d_is_word_of.fd ["thing", "words"] (spD K mg 2 S_is_word_of) := fn_body T.d_is_word_of.F sc_is_word_of (der_is_word_of T)
theorem mono_is_word_of (P : Program) (w : World) (base : Heap) (T : Facts K mg) {A : Around} (s : Shared) (hr : Room 1 A) (hG : A.guards = some []) : MonoC S_is_word_of := monoBody (der_is_word_of (P := P) (w := w) (base := base) T .none A [] s (fun _ => none) (fun _ _ _ => False) ⟨false, 0, 0, ""⟩ (hr.deeper _) hG).mono
theorem sc_is_tuple : FnScope ["thing", "length"] ["thing", "length"] (defScope s_is_tuple) := ⟨rfl, rfl, rfl, by decide +kernel, rfl, by decide +kernel, by decide +kernel⟩
def t_is_tuple : DTS :=
  (dRet (dAndV (dIsi (isiB "tuple") (dVar 0)) (dOp (fEq false) (dBui (f1 lenD) (dCons (dVar 0) dNil)) (dVar 1))))
def S_is_tuple : DL.Spec := bodyS ["thing", "length"] 2 t_is_tuple
theorem der_is_tuple (T : Facts K mg) (cdv : Value) (A : Around) (outer : List PySem.Env) (s : Shared) (H : Hp) (E : XK) (dk : Dk) (hr : Room 0 (A.deeper (envOfC "is_tuple" (defScope s_is_tuple) s.heap.objs.size T.d_is_tuple.a cdv))) (hG : (A.deeper (envOfC "is_tuple" (defScope s_is_tuple) s.heap.objs.size T.d_is_tuple.a cdv)).guards = some []) :
    DSs (cxOf (L2.CX P w) P w K mg base ["thing", "length"] "is_tuple" (defScope s_is_tuple) T.d_is_tuple.a cdv A outer s H E) dk (WL E) (defBody s_is_tuple) t_is_tuple :=
  have tk := takes_of (E := E) (X := cxOf (L2.CX P w) P w K mg base ["thing", "length"] "is_tuple" (defScope s_is_tuple) T.d_is_tuple.a cdv A outer s H E) rfl rfl rfl rfl
  (by exact dss_one (by exact ds_ret (by exact by exact de_and (by exact de_isi (by rfl) T.m_isinstance (by rfl) T.m_tuple boot_tuple (by decide) (by exact de_var 0)) (de_one (by exact de_cmp (op_eqD hr.units) ops_eq (by exact de_callB (call_len.or call_lenK) bui_lenD (by rfl) T.m_len PySem.boot_len (by exact by exact da_cons (by exact de_var 0) da_nil)) (by exact de_var 1))))))
theorem ok_is_tuple (T : Facts K mg) : FnG P w K mg base 1 T.d_is_tuple.a T.d_is_tuple.fd ["thing", "length"] (spD K mg 2 S_is_tuple) := fn_body T.d_is_tuple.F sc_is_tuple (der_is_tuple T)
theorem mono_is_tuple (P : Program) (w : World) (base : Heap) (T : Facts K mg) {A : Around} (s : Shared) (hr : Room 1 A) (hG : A.guards = some []) : MonoC S_is_tuple := monoBody (der_is_tuple (P := P) (w := w) (base := base) T .none A [] s (fun _ => none) (fun _ _ _ => False) ⟨false, 0, 0, ""⟩ (hr.deeper _) hG).mono
theorem sc_figures : FnScope ["number", "length", "found", "place"] ["number", "length"] (defScope s_figures) := ⟨rfl, rfl, rfl, by decide +kernel, rfl, by decide +kernel, by decide +kernel⟩
def t_figures : DTS :=
  (dSeq (dAsg 2 (dC (.str "")))
  (dSeq (dFor (dRange1 (dVar 1)) (gdName 3) (dSeq (dAsg 2 (dOp fAdd (dBui (f1 strOfInt) (dCons (dOp fMod (dVar 0) (dC (.int 2))) dNil)) (dVar 2)))
  (dAsg 0 (dOp fDiv (dVar 0) (dC (.int 2))))))
  (dRet (dVar 2))))
def S_figures : DL.Spec := bodyS ["number", "length", "found", "place"] 2 t_figures
theorem der_figures (T : Facts K mg) (cdv : Value) (A : Around) (outer : List PySem.Env) (s : Shared) (H : Hp) (E : XK) (dk : Dk) (hr : Room 0 (A.deeper (envOfC "figures" (defScope s_figures) s.heap.objs.size T.d_figures.a cdv))) (hG : (A.deeper (envOfC "figures" (defScope s_figures) s.heap.objs.size T.d_figures.a cdv)).guards = some []) :
    DSs (cxOf (L2.CX P w) P w K mg base ["number", "length", "found", "place"] "figures" (defScope s_figures) T.d_figures.a cdv A outer s H E) dk (WL E) (defBody s_figures) t_figures :=
  have tk := takes_of (E := E) (X := cxOf (L2.CX P w) P w K mg base ["number", "length", "found", "place"] "figures" (defScope s_figures) T.d_figures.a cdv A outer s H E) rfl rfl rfl rfl
  (by exact by exact dss_cons (by exact ds_set 2 sc_figures.nd de_str) (by exact dss_cons (by exact ds_for (vs := [3]) (passes_of (by rfl)) (by rfl) (by exact di_range1 (by rfl) T.m_range (by exact de_var 1)) (by exact dg_name 3 sc_figures.nd) (by exact by exact dss_cons (by exact ds_set 2 sc_figures.nd (by exact de_op opr_add ops_add (by exact de_callTy call_str_int bui_strInt (by rfl) T.m_str boot_str (by exact by exact da_cons (by exact de_op op_modN ops_int (by exact de_var 0) de_int) da_nil)) (by exact de_var 2))) (dss_one (by exact ds_set 0 sc_figures.nd (by exact de_op opr_div ops_int (by exact de_var 0) de_int))))) (dss_one (by exact ds_ret (by exact de_var 2)))))
theorem ok_figures (T : Facts K mg) : FnG P w K mg base 1 T.d_figures.a T.d_figures.fd ["number", "length"] (spD K mg 2 S_figures) := fn_body T.d_figures.F sc_figures (der_figures T)
theorem mono_figures (P : Program) (w : World) (base : Heap) (T : Facts K mg) {A : Around} (s : Shared) (hr : Room 1 A) (hG : A.guards = some []) : MonoC S_figures := monoBody (der_figures (P := P) (w := w) (base := base) T .none A [] s (fun _ => none) (fun _ _ _ => False) ⟨false, 0, 0, ""⟩ (hr.deeper _) hG).mono
theorem sc_does_match : FnScope ["pattern", "word", "sign", "bit"] ["pattern", "word"] (defScope s_does_match) := ⟨rfl, rfl, rfl, by decide +kernel, rfl, by decide +kernel, by decide +kernel⟩
def t_does_match : DTS :=
  (dRet (dBui (f1 allOf) (dCons (dOfF (dFComp (dZip (dVar 0) (dVar 1)) (gdTup 2 (gdCons (gdName 2) (gdCons (gdName 3) gdNil))) dYes (dOp (fIn false) (dVar 2) (dTup (dCons (dC (.str "-")) (dCons (dVar 3) dNil)))) [2, 3])) dNil)))
def S_does_match : DL.Spec := bodyS ["pattern", "word", "sign", "bit"] 2 t_does_match
theorem der_does_match (T : Facts K mg) (cdv : Value) (A : Around) (outer : List PySem.Env) (s : Shared) (H : Hp) (E : XK) (dk : Dk) (hr : Room 0 (A.deeper (envOfC "does_match" (defScope s_does_match) s.heap.objs.size T.d_does_match.a cdv))) (hG : (A.deeper (envOfC "does_match" (defScope s_does_match) s.heap.objs.size T.d_does_match.a cdv)).guards = some []) :
    DSs (cxOf (L2.CX P w) P w K mg base ["pattern", "word", "sign", "bit"] "does_match" (defScope s_does_match) T.d_does_match.a cdv A outer s H E) dk (WL E) (defBody s_does_match) t_does_match :=
  have tk := takes_of (E := E) (X := cxOf (L2.CX P w) P w K mg base ["pattern", "word", "sign", "bit"] "does_match" (defScope s_does_match) T.d_does_match.a cdv A outer s H E) rfl rfl rfl rfl
  (by exact dss_one (by exact ds_ret (by exact de_callB (cr_all (by rfl)) bui_all (by rfl) T.m_all (by decide +kernel) (by exact by exact da_cons (by exact de_ofF (by exact df_comp (own := [("sign", 2), ("bit", 3)]) (by rfl) sc_does_match.nd (by exact di_zip (by rfl) T.m_zip (by exact de_var 0) (by exact de_var 1)) (show BlkOk ["pattern", "word", "sign", "bit"] (defScope s_does_match) _ [("sign", 2), ("bit", 3)] from ⟨rfl, by decide +kernel, by decide +kernel, by decide +kernel, by decide +kernel⟩) (fun _ _ _ _ _ => (by exact dg_tup (by rfl) (by exact dgs_cons (by exact dg_name 2 sc_does_match.nd) (by exact dgs_cons (by exact dg_name 3 sc_does_match.nd) dgs_nil)))) (fun _ _ _ _ _ => dts_nil) (fun _ _ _ _ _ => (by exact de_cmp opr_in ops_in (by exact de_var 2) (by exact de_tup (by exact by exact da_cons de_str (by exact da_cons (by exact de_var 3) da_nil))))))) da_nil))))
theorem ok_does_match (T : Facts K mg) : FnG P w K mg base 1 T.d_does_match.a T.d_does_match.fd ["pattern", "word"] (spD K mg 2 S_does_match) := fn_body T.d_does_match.F sc_does_match (der_does_match T)
theorem mono_does_match (P : Program) (w : World) (base : Heap) (T : Facts K mg) {A : Around} (s : Shared) (hr : Room 1 A) (hG : A.guards = some []) : MonoC S_does_match := monoBody (der_does_match (P := P) (w := w) (base := base) T .none A [] s (fun _ => none) (fun _ _ _ => False) ⟨false, 0, 0, ""⟩ (hr.deeper _) hG).mono
abbrev S__law_draw : DL.Spec := SDraw "left"
theorem ok__law_draw (T : Facts K mg) : FnG P w K mg base 1 T.d__law_draw.a T.d__law_draw.fd ["deck", "many"] (spD K mg 2 S__law_draw) := ok_law_draw T.d__law_draw.F T.m_int T.m_max
theorem ok__law_deck (T : Facts K mg) : FnG P w K mg base 1 T.d__law_deck.a T.d__law_deck.fd ["script"] (spDeck K "left") := ok_law_deck T.d__law_deck.F T.m_int
theorem mono__law_draw (P : Program) (w : World) (base : Heap) (T : Facts K mg) {A : Around} (s : Shared) (hr : Room 1 A) (hG : A.guards = some []) : MonoC S__law_draw := monoDraw
theorem sc__law_same : FnScope ["told", "due"] ["told", "due"] (defScope s__law_same) := ⟨rfl, rfl, rfl, by decide +kernel, rfl, by decide +kernel, by decide +kernel⟩
def t__law_same : DTS :=
  (dRet (dOp (fEqS false) (dBui (f1 (reprOf false)) (dCons (dVar 0) dNil)) (dBui (f1 (reprOf false)) (dCons (dVar 1) dNil))))
def S__law_same : DL.Spec := bodyS ["told", "due"] 2 t__law_same
theorem der__law_same (T : Facts K mg) (cdv : Value) (A : Around) (outer : List PySem.Env) (s : Shared) (H : Hp) (E : XK) (dk : Dk) (hr : Room 0 (A.deeper (envOfC "_law_same" (defScope s__law_same) s.heap.objs.size T.d__law_same.a cdv))) (hG : (A.deeper (envOfC "_law_same" (defScope s__law_same) s.heap.objs.size T.d__law_same.a cdv)).guards = some []) :
    DSs (cxOf (L2.CX P w) P w K mg base ["told", "due"] "_law_same" (defScope s__law_same) T.d__law_same.a cdv A outer s H E) dk (WL E) (defBody s__law_same) t__law_same :=
  have tk := takes_of (E := E) (X := cxOf (L2.CX P w) P w K mg base ["told", "due"] "_law_same" (defScope s__law_same) T.d__law_same.a cdv A outer s H E) rfl rfl rfl rfl
  (by exact dss_one (by exact ds_ret (by exact de_cmp op_eq ops_eqS (by exact de_callB (call_reprD hr hG (b := false) nofun) bui_repr (by rfl) T.m_repr boot_repr (by exact by exact da_cons (by exact de_var 0) da_nil)) (by exact de_callB (call_reprD hr hG (b := false) nofun) bui_repr (by rfl) T.m_repr boot_repr (by exact by exact da_cons (by exact de_var 1) da_nil)))))
theorem ok__law_same (T : Facts K mg) : FnG P w K mg base 1 T.d__law_same.a T.d__law_same.fd ["told", "due"] (spD K mg 2 S__law_same) := fn_body T.d__law_same.F sc__law_same (der__law_same T)
theorem mono__law_same (P : Program) (w : World) (base : Heap) (T : Facts K mg) {A : Around} (s : Shared) (hr : Room 1 A) (hG : A.guards = some []) : MonoC S__law_same := monoBody (der__law_same (P := P) (w := w) (base := base) T .none A [] s (fun _ => none) (fun _ _ _ => False) ⟨false, 0, 0, ""⟩ (hr.deeper _) hG).mono
theorem sc__law_bits : FnScope ["b", "s", "cell", "text", "number", "place"] ["b", "s", "cell"] (defScope s__law_bits) := ⟨rfl, rfl, rfl, by decide +kernel, rfl, by decide +kernel, by decide +kernel⟩
def t__law_bits : DTS :=
  (dSeq (dPar [3, 4] (dpVal (dC (.str "")) (dpVal (dOp fSub (dOp (fOp itemOf) (dVar 2) (dC (.int 1))) (dOp fShl (dOp fShr (dOp (fOp itemOf) (dVar 2) (dC (.int 1))) (dVar 0)) (dVar 0))) dpNil)))
  (dSeq (dFor (dRange1 (dVar 0)) (gdName 5) (dAsg 3 (dOp fAdd (dVar 3) (dIfE (dTest (dOp (fEq false) (dOp fBAnd (dOp fShr (dVar 4) (dOp fSub (dOp fSub (dVar 0) (dC (.int 1))) (dVar 5))) (dC (.int 1))) (dC (.int 1)))) (dC (.str "1")) (dC (.str "0"))))))
  (dSeq (dFor (dRange1 (dVar 1)) (gdName 5) (dAsg 3 (dOp fAdd (dVar 3) (dIfE (dTest (dOp (fEq false) (dOp fBAnd (dOp fShr (dOp (fOp itemOf) (dVar 2) (dC (.int 0))) (dOp fSub (dOp fSub (dVar 1) (dC (.int 1))) (dVar 5))) (dC (.int 1))) (dC (.int 1)))) (dC (.str "1")) (dC (.str "0"))))))
  (dRet (dVar 3)))))
def S__law_bits : DL.Spec := bodyS ["b", "s", "cell", "text", "number", "place"] 3 t__law_bits
theorem der__law_bits (T : Facts K mg) (cdv : Value) (A : Around) (outer : List PySem.Env) (s : Shared) (H : Hp) (E : XK) (dk : Dk) (hr : Room 0 (A.deeper (envOfC "_law_bits" (defScope s__law_bits) s.heap.objs.size T.d__law_bits.a cdv))) (hG : (A.deeper (envOfC "_law_bits" (defScope s__law_bits) s.heap.objs.size T.d__law_bits.a cdv)).guards = some []) :
    DSs (cxOf (L2.CX P w) P w K mg base ["b", "s", "cell", "text", "number", "place"] "_law_bits" (defScope s__law_bits) T.d__law_bits.a cdv A outer s H E) dk (WL E) (defBody s__law_bits) t__law_bits :=
  have tk := takes_of (E := E) (X := cxOf (L2.CX P w) P w K mg base ["b", "s", "cell", "text", "number", "place"] "_law_bits" (defScope s__law_bits) T.d__law_bits.a cdv A outer s H E) rfl rfl rfl rfl
  (by exact by exact dss_cons (by exact ds_par2 (i := 3) (j := 4) (by rfl) sc__law_bits.nd (by exact dp_val de_str (by exact dp_val (by exact de_op op_sub ops_int0 (by exact de_ix (by exact de_var 2) de_int) (by exact de_op opr_shl ops_int (by exact de_op op_shr ops_int (by exact de_ix (by exact de_var 2) de_int) (by exact de_var 0)) (by exact de_var 0))) dp_nil))) (by exact dss_cons (by exact ds_for (vs := [5]) (passes_of (by rfl)) (by rfl) (by exact di_range1 (by rfl) T.m_range (by exact de_var 0)) (by exact dg_name 5 sc__law_bits.nd) (by exact dss_one (by exact ds_set 3 sc__law_bits.nd (by exact de_op opr_add ops_add (by exact de_var 3) (by exact de_ifE (by exact dt_cmp (op_eqD hr.units) ops_eq (by exact de_op op_and ops_int0 (by exact de_op op_shr ops_int (by exact de_var 4) (by exact de_op op_sub ops_int0 (by exact de_op op_sub ops_int0 (by exact de_var 0) de_int) (by exact de_var 5))) de_int) de_int) de_str de_str))))) (by exact dss_cons (by exact ds_for (vs := [5]) (passes_of (by rfl)) (by rfl) (by exact di_range1 (by rfl) T.m_range (by exact de_var 1)) (by exact dg_name 5 sc__law_bits.nd) (by exact dss_one (by exact ds_set 3 sc__law_bits.nd (by exact de_op opr_add ops_add (by exact de_var 3) (by exact de_ifE (by exact dt_cmp (op_eqD hr.units) ops_eq (by exact de_op op_and ops_int0 (by exact de_op op_shr ops_int (by exact de_ix (by exact de_var 2) de_int) (by exact de_op op_sub ops_int0 (by exact de_op op_sub ops_int0 (by exact de_var 1) de_int) (by exact de_var 5))) de_int) de_int) de_str de_str))))) (dss_one (by exact ds_ret (by exact de_var 3))))))
theorem ok__law_bits (T : Facts K mg) : FnG P w K mg base 1 T.d__law_bits.a T.d__law_bits.fd ["b", "s", "cell"] (spD K mg 3 S__law_bits) := fn_body T.d__law_bits.F sc__law_bits (der__law_bits T)
theorem mono__law_bits (P : Program) (w : World) (base : Heap) (T : Facts K mg) {A : Around} (s : Shared) (hr : Room 1 A) (hG : A.guards = some []) : MonoC S__law_bits := monoBody (der__law_bits (P := P) (w := w) (base := base) T .none A [] s (fun _ => none) (fun _ _ _ => False) ⟨false, 0, 0, ""⟩ (hr.deeper _) hG).mono
theorem sc_is_from : FnScope ["thing", "least"] ["thing", "least"] (defScope s_is_from) := ⟨rfl, rfl, rfl, by decide +kernel, rfl, by decide +kernel, by decide +kernel⟩
def t_is_from : DTS :=
  (dRet (dAndV (dCall 1 S_is_integer (dCons (dVar 0) dNil)) (dOp fGe (dVar 0) (dVar 1))))
def S_is_from : DL.Spec := bodyS ["thing", "least"] 2 t_is_from
theorem der_is_from (T : Facts K mg) (cdv : Value) (A : Around) (outer : List PySem.Env) (s : Shared) (H : Hp) (E : XK) (dk : Dk) (hr : Room 1 (A.deeper (envOfC "is_from" (defScope s_is_from) s.heap.objs.size T.d_is_from.a cdv))) (hG : (A.deeper (envOfC "is_from" (defScope s_is_from) s.heap.objs.size T.d_is_from.a cdv)).guards = some []) :
    DSs (cxOf (L2.CX P w) P w K mg base ["thing", "least"] "is_from" (defScope s_is_from) T.d_is_from.a cdv A outer s H E) dk (WL E) (defBody s_is_from) t_is_from :=
  have tk := takes_of (E := E) (X := cxOf (L2.CX P w) P w K mg base ["thing", "least"] "is_from" (defScope s_is_from) T.d_is_from.a cdv A outer s H E) rfl rfl rfl rfl
  (by exact dss_one (by exact ds_ret (by exact by exact de_and (by exact de_call (ok_is_integer T) (mono_is_integer P w base T s (hr.mono (by decide)) hG) (hr.mono (by decide)) hG tk T.d_is_integer.g T.d_is_integer.k T.d_is_integer.b (by exact by exact da_cons (by exact de_var 0) da_nil)) (de_one (by exact de_cmp op_ge ops_intB (by exact de_var 0) (by exact de_var 1))))))
theorem ok_is_from (T : Facts K mg) : FnG P w K mg base 2 T.d_is_from.a T.d_is_from.fd ["thing", "least"] (spD K mg 2 S_is_from) := fn_body T.d_is_from.F sc_is_from (der_is_from T)
theorem mono_is_from (P : Program) (w : World) (base : Heap) (T : Facts K mg) {A : Around} (s : Shared) (hr : Room 2 A) (hG : A.guards = some []) : MonoC S_is_from := monoBody (der_is_from (P := P) (w := w) (base := base) T .none A [] s (fun _ => none) (fun _ _ _ => False) ⟨false, 0, 0, ""⟩ (hr.deeper _) hG).mono
theorem sc_is_scheme_value : FnScope ["thing"] ["thing"] (defScope s_is_scheme_value) := ⟨rfl, rfl, rfl, by decide +kernel, rfl, by decide +kernel, by decide +kernel⟩
def t_is_scheme_value : DTS :=
  (dSeq (dIf (dOr (dNot (dTest (dCall 2 S_is_tuple (dCons (dVar 0) (dCons (dC (.int 2)) dNil))))) (dOr (dNot (dTest (dCall 1 S_is_integer (dCons (dOp (fOp itemOf) (dVar 0) (dC (.int 0))) dNil)))) (dOr (dNot (dTest (dCall 1 S_is_integer (dCons (dOp (fOp itemOf) (dVar 0) (dC (.int 1))) dNil)))) (dNot (dTest (dChain fLe fLe (dC (.int 1)) (dOp (fOp itemOf) (dVar 0) (dC (.int 0))) (dC (.int 3)))))))) (dRet (dC (.bool false))) dNext)
  (dRet (dChain fLe fLt (dCall 1 S_two (dCons (dOp fSub (dOp (fOp itemOf) (dVar 0) (dC (.int 0))) (dC (.int 1))) dNil)) (dOp (fOp itemOf) (dVar 0) (dC (.int 1))) (dCall 1 S_two (dCons (dOp (fOp itemOf) (dVar 0) (dC (.int 0))) dNil)))))
def S_is_scheme_value : DL.Spec := bodyS ["thing"] 1 t_is_scheme_value
theorem der_is_scheme_value (T : Facts K mg) (cdv : Value) (A : Around) (outer : List PySem.Env) (s : Shared) (H : Hp) (E : XK) (dk : Dk) (hr : Room 1 (A.deeper (envOfC "is_scheme_value" (defScope s_is_scheme_value) s.heap.objs.size T.d_is_scheme_value.a cdv))) (hG : (A.deeper (envOfC "is_scheme_value" (defScope s_is_scheme_value) s.heap.objs.size T.d_is_scheme_value.a cdv)).guards = some []) :
    DSs (cxOf (L2.CX P w) P w K mg base ["thing"] "is_scheme_value" (defScope s_is_scheme_value) T.d_is_scheme_value.a cdv A outer s H E) dk (WL E) (defBody s_is_scheme_value) t_is_scheme_value :=
  have tk := takes_of (E := E) (X := cxOf (L2.CX P w) P w K mg base ["thing"] "is_scheme_value" (defScope s_is_scheme_value) T.d_is_scheme_value.a cdv A outer s H E) rfl rfl rfl rfl
  (by exact by exact dss_cons (by exact ds_if (by exact dt_w (by exact dw_or (by exact dt_not (by exact dt_val (by exact de_call (ok_is_tuple T) (mono_is_tuple P w base T s (hr.mono (by decide)) hG) (hr.mono (by decide)) hG tk T.d_is_tuple.g T.d_is_tuple.k T.d_is_tuple.b (by exact by exact da_cons (by exact de_var 0) (by exact da_cons de_int da_nil))))) (by exact dw_or (by exact dt_not (by exact dt_val (by exact de_call (ok_is_integer T) (mono_is_integer P w base T s (hr.mono (by decide)) hG) (hr.mono (by decide)) hG tk T.d_is_integer.g T.d_is_integer.k T.d_is_integer.b (by exact by exact da_cons (by exact de_ix (by exact de_var 0) de_int) da_nil)))) (by exact dw_or (by exact dt_not (by exact dt_val (by exact de_call (ok_is_integer T) (mono_is_integer P w base T s (hr.mono (by decide)) hG) (hr.mono (by decide)) hG tk T.d_is_integer.g T.d_is_integer.k T.d_is_integer.b (by exact by exact da_cons (by exact de_ix (by exact de_var 0) de_int) da_nil)))) (dw_or1 (by exact dt_not (by exact dt_chain op_le ops_intB op_le ops_intB de_int (by exact de_ix (by exact de_var 0) de_int) de_int))))))) (by exact dss_one (by exact ds_ret de_bl)) dss_nil) (dss_one (by exact ds_ret (by exact de_chain op_le ops_intB op_lt ops_intB (by exact de_call (ok_two T) (mono_two P w base T s (hr.mono (by decide)) hG) (hr.mono (by decide)) hG tk T.d_two.g T.d_two.k T.d_two.b (by exact by exact da_cons (by exact de_op op_sub ops_int0 (by exact de_ix (by exact de_var 0) de_int) de_int) da_nil)) (by exact de_ix (by exact de_var 0) de_int) (by exact de_call (ok_two T) (mono_two P w base T s (hr.mono (by decide)) hG) (hr.mono (by decide)) hG tk T.d_two.g T.d_two.k T.d_two.b (by exact by exact da_cons (by exact de_ix (by exact de_var 0) de_int) da_nil))))))
theorem ok_is_scheme_value (T : Facts K mg) : FnG P w K mg base 2 T.d_is_scheme_value.a T.d_is_scheme_value.fd ["thing"] (spD K mg 1 S_is_scheme_value) := fn_body T.d_is_scheme_value.F sc_is_scheme_value (der_is_scheme_value T)
theorem mono_is_scheme_value (P : Program) (w : World) (base : Heap) (T : Facts K mg) {A : Around} (s : Shared) (hr : Room 2 A) (hG : A.guards = some []) : MonoC S_is_scheme_value := monoBody (der_is_scheme_value (P := P) (w := w) (base := base) T .none A [] s (fun _ => none) (fun _ _ _ => False) ⟨false, 0, 0, ""⟩ (hr.deeper _) hG).mono
theorem sc_is_digit : FnScope ["scheme", "thing"] ["scheme", "thing"] (defScope s_is_digit) := ⟨rfl, rfl, rfl, by decide +kernel, rfl, by decide +kernel, by decide +kernel⟩
def t_is_digit : DTS :=
  (dRet (dAndV (dCall 1 S_is_integer (dCons (dVar 1) dNil)) (dChain fLe fLe (dOp fSub (dC (.int 0)) (dOp (fOp itemOf) (dVar 0) (dC (.int 1)))) (dVar 1) (dOp (fOp itemOf) (dVar 0) (dC (.int 1))))))
def S_is_digit : DL.Spec := bodyS ["scheme", "thing"] 2 t_is_digit
theorem der_is_digit (T : Facts K mg) (cdv : Value) (A : Around) (outer : List PySem.Env) (s : Shared) (H : Hp) (E : XK) (dk : Dk) (hr : Room 1 (A.deeper (envOfC "is_digit" (defScope s_is_digit) s.heap.objs.size T.d_is_digit.a cdv))) (hG : (A.deeper (envOfC "is_digit" (defScope s_is_digit) s.heap.objs.size T.d_is_digit.a cdv)).guards = some []) :
    DSs (cxOf (L2.CX P w) P w K mg base ["scheme", "thing"] "is_digit" (defScope s_is_digit) T.d_is_digit.a cdv A outer s H E) dk (WL E) (defBody s_is_digit) t_is_digit :=
  have tk := takes_of (E := E) (X := cxOf (L2.CX P w) P w K mg base ["scheme", "thing"] "is_digit" (defScope s_is_digit) T.d_is_digit.a cdv A outer s H E) rfl rfl rfl rfl
  (by exact dss_one (by exact ds_ret (by exact by exact de_and (by exact de_call (ok_is_integer T) (mono_is_integer P w base T s (hr.mono (by decide)) hG) (hr.mono (by decide)) hG tk T.d_is_integer.g T.d_is_integer.k T.d_is_integer.b (by exact by exact da_cons (by exact de_var 1) da_nil)) (de_one (by exact de_chain op_le ops_intB op_le ops_intB (by exact de_op op_sub ops_int0 de_int (by exact de_ix (by exact de_var 0) de_int)) (by exact de_var 1) (by exact de_ix (by exact de_var 0) de_int))))))
theorem ok_is_digit (T : Facts K mg) : FnG P w K mg base 2 T.d_is_digit.a T.d_is_digit.fd ["scheme", "thing"] (spD K mg 2 S_is_digit) := fn_body T.d_is_digit.F sc_is_digit (der_is_digit T)
theorem mono_is_digit (P : Program) (w : World) (base : Heap) (T : Facts K mg) {A : Around} (s : Shared) (hr : Room 2 A) (hG : A.guards = some []) : MonoC S_is_digit := monoBody (der_is_digit (P := P) (w := w) (base := base) T .none A [] s (fun _ => none) (fun _ _ _ => False) ⟨false, 0, 0, ""⟩ (hr.deeper _) hG).mono
theorem sc_is_cell : FnScope ["look", "thing"] ["look", "thing"] (defScope s_is_cell) := ⟨rfl, rfl, rfl, by decide +kernel, rfl, by decide +kernel, by decide +kernel⟩
def t_is_cell : DTS :=
  (dSeq (dIf (dOr (dNot (dTest (dCall 2 S_is_tuple (dCons (dVar 1) (dCons (dC (.int 2)) dNil))))) (dOr (dNot (dTest (dCall 1 S_is_integer (dCons (dOp (fOp itemOf) (dVar 1) (dC (.int 0))) dNil)))) (dNot (dTest (dCall 1 S_is_integer (dCons (dOp (fOp itemOf) (dVar 1) (dC (.int 1))) dNil)))))) (dRet (dC (.bool false))) dNext)
  (dRet (dAndV (dOp fGe (dOp (fOp itemOf) (dVar 1) (dC (.int 0))) (dC (.int 0))) (dOp fLe (dF1 bitsOf (dOp (fOp itemOf) (dVar 1) (dC (.int 0)))) (dOp (fOp itemOf) (dVar 0) (dC (.int 1)))))))
def S_is_cell : DL.Spec := bodyS ["look", "thing"] 2 t_is_cell
theorem der_is_cell (T : Facts K mg) (cdv : Value) (A : Around) (outer : List PySem.Env) (s : Shared) (H : Hp) (E : XK) (dk : Dk) (hr : Room 1 (A.deeper (envOfC "is_cell" (defScope s_is_cell) s.heap.objs.size T.d_is_cell.a cdv))) (hG : (A.deeper (envOfC "is_cell" (defScope s_is_cell) s.heap.objs.size T.d_is_cell.a cdv)).guards = some []) :
    DSs (cxOf (L2.CX P w) P w K mg base ["look", "thing"] "is_cell" (defScope s_is_cell) T.d_is_cell.a cdv A outer s H E) dk (WL E) (defBody s_is_cell) t_is_cell :=
  have tk := takes_of (E := E) (X := cxOf (L2.CX P w) P w K mg base ["look", "thing"] "is_cell" (defScope s_is_cell) T.d_is_cell.a cdv A outer s H E) rfl rfl rfl rfl
  (by exact by exact dss_cons (by exact ds_if (by exact dt_w (by exact dw_or (by exact dt_not (by exact dt_val (by exact de_call (ok_is_tuple T) (mono_is_tuple P w base T s (hr.mono (by decide)) hG) (hr.mono (by decide)) hG tk T.d_is_tuple.g T.d_is_tuple.k T.d_is_tuple.b (by exact by exact da_cons (by exact de_var 1) (by exact da_cons de_int da_nil))))) (by exact dw_or (by exact dt_not (by exact dt_val (by exact de_call (ok_is_integer T) (mono_is_integer P w base T s (hr.mono (by decide)) hG) (hr.mono (by decide)) hG tk T.d_is_integer.g T.d_is_integer.k T.d_is_integer.b (by exact by exact da_cons (by exact de_ix (by exact de_var 1) de_int) da_nil)))) (dw_or1 (by exact dt_not (by exact dt_val (by exact de_call (ok_is_integer T) (mono_is_integer P w base T s (hr.mono (by decide)) hG) (hr.mono (by decide)) hG tk T.d_is_integer.g T.d_is_integer.k T.d_is_integer.b (by exact by exact da_cons (by exact de_ix (by exact de_var 1) de_int) da_nil)))))))) (by exact dss_one (by exact ds_ret de_bl)) dss_nil) (dss_one (by exact ds_ret (by exact by exact de_and (by exact de_cmp op_ge ops_intB (by exact de_ix (by exact de_var 1) de_int) de_int) (de_one (by exact de_cmp op_le ops_intB (by exact de_bits (by exact de_ix (by exact de_var 1) de_int)) (by exact de_ix (by exact de_var 0) de_int)))))))
theorem ok_is_cell (T : Facts K mg) : FnG P w K mg base 2 T.d_is_cell.a T.d_is_cell.fd ["look", "thing"] (spD K mg 2 S_is_cell) := fn_body T.d_is_cell.F sc_is_cell (der_is_cell T)
theorem mono_is_cell (P : Program) (w : World) (base : Heap) (T : Facts K mg) {A : Around} (s : Shared) (hr : Room 2 A) (hG : A.guards = some []) : MonoC S_is_cell := monoBody (der_is_cell (P := P) (w := w) (base := base) T .none A [] s (fun _ => none) (fun _ _ _ => False) ⟨false, 0, 0, ""⟩ (hr.deeper _) hG).mono
theorem sc_word_of : FnScope ["machine", "b", "cell"] ["machine", "b", "cell"] (defScope s_word_of) := ⟨rfl, rfl, rfl, by decide +kernel, rfl, by decide +kernel, by decide +kernel⟩
def t_word_of : DTS :=
  (dRet (dOp fAdd (dCall 2 S_figures (dCons (dOp (fOp itemOf) (dVar 2) (dC (.int 1))) (dCons (dVar 1) dNil))) (dCall 2 S_figures (dCons (dOp (fOp itemOf) (dVar 2) (dC (.int 0))) (dCons (dOp (fOp itemOf) (dOp (fOp itemOf) (dVar 0) (dC (.int 1))) (dC (.int 1))) dNil)))))
def S_word_of : DL.Spec := bodyS ["machine", "b", "cell"] 3 t_word_of
theorem der_word_of (T : Facts K mg) (cdv : Value) (A : Around) (outer : List PySem.Env) (s : Shared) (H : Hp) (E : XK) (dk : Dk) (hr : Room 1 (A.deeper (envOfC "word_of" (defScope s_word_of) s.heap.objs.size T.d_word_of.a cdv))) (hG : (A.deeper (envOfC "word_of" (defScope s_word_of) s.heap.objs.size T.d_word_of.a cdv)).guards = some []) :
    DSs (cxOf (L2.CX P w) P w K mg base ["machine", "b", "cell"] "word_of" (defScope s_word_of) T.d_word_of.a cdv A outer s H E) dk (WL E) (defBody s_word_of) t_word_of :=
  have tk := takes_of (E := E) (X := cxOf (L2.CX P w) P w K mg base ["machine", "b", "cell"] "word_of" (defScope s_word_of) T.d_word_of.a cdv A outer s H E) rfl rfl rfl rfl
  (by exact dss_one (by exact ds_ret (by exact de_op opr_add ops_add (by exact de_call (ok_figures T) (mono_figures P w base T s (hr.mono (by decide)) hG) (hr.mono (by decide)) hG tk T.d_figures.g T.d_figures.k T.d_figures.b (by exact by exact da_cons (by exact de_ix (by exact de_var 2) de_int) (by exact da_cons (by exact de_var 1) da_nil))) (by exact de_call (ok_figures T) (mono_figures P w base T s (hr.mono (by decide)) hG) (hr.mono (by decide)) hG tk T.d_figures.g T.d_figures.k T.d_figures.b (by exact by exact da_cons (by exact de_ix (by exact de_var 2) de_int) (by exact da_cons (by exact de_ix (by exact de_ix (by exact de_var 0) de_int) de_int) da_nil))))))
theorem ok_word_of (T : Facts K mg) : FnG P w K mg base 2 T.d_word_of.a T.d_word_of.fd ["machine", "b", "cell"] (spD K mg 3 S_word_of) := fn_body T.d_word_of.F sc_word_of (der_word_of T)
theorem mono_word_of (P : Program) (w : World) (base : Heap) (T : Facts K mg) {A : Around} (s : Shared) (hr : Room 2 A) (hG : A.guards = some []) : MonoC S_word_of := monoBody (der_word_of (P := P) (w := w) (base := base) T .none A [] s (fun _ => none) (fun _ _ _ => False) ⟨false, 0, 0, ""⟩ (hr.deeper _) hG).mono
theorem sc__law_pick : FnScope ["deck", "some"] ["deck", "some"] (defScope s__law_pick) := ⟨rfl, rfl, rfl, by decide +kernel, rfl, by decide +kernel, by decide +kernel⟩
def t__law_pick : DTS :=
  (dRet (dOp (fOp itemOf) (dVar 1) (dCall 2 S__law_draw (dCons (dVar 0) (dCons (dBui (f1 lenD) (dCons (dVar 1) dNil)) dNil)))))
def S__law_pick : DL.Spec := bodyS ["deck", "some"] 2 t__law_pick
theorem der__law_pick (T : Facts K mg) (cdv : Value) (A : Around) (outer : List PySem.Env) (s : Shared) (H : Hp) (E : XK) (dk : Dk) (hr : Room 1 (A.deeper (envOfC "_law_pick" (defScope s__law_pick) s.heap.objs.size T.d__law_pick.a cdv))) (hG : (A.deeper (envOfC "_law_pick" (defScope s__law_pick) s.heap.objs.size T.d__law_pick.a cdv)).guards = some []) :
    DSs (cxOf (L2.CX P w) P w K mg base ["deck", "some"] "_law_pick" (defScope s__law_pick) T.d__law_pick.a cdv A outer s H E) dk (WL E) (defBody s__law_pick) t__law_pick :=
  have tk := takes_of (E := E) (X := cxOf (L2.CX P w) P w K mg base ["deck", "some"] "_law_pick" (defScope s__law_pick) T.d__law_pick.a cdv A outer s H E) rfl rfl rfl rfl
  (by exact dss_one (by exact ds_ret (by exact de_ix (by exact de_var 1) (by exact de_call (ok__law_draw T) (mono__law_draw P w base T s (hr.mono (by decide)) hG) (hr.mono (by decide)) hG tk T.d__law_draw.g T.d__law_draw.k T.d__law_draw.b (by exact by exact da_cons (by exact de_var 0) (by exact da_cons (by exact de_callB (call_len.or call_lenK) bui_lenD (by rfl) T.m_len PySem.boot_len (by exact by exact da_cons (by exact de_var 1) da_nil)) da_nil))))))
theorem ok__law_pick (T : Facts K mg) : FnG P w K mg base 2 T.d__law_pick.a T.d__law_pick.fd ["deck", "some"] (spD K mg 2 S__law_pick) := fn_body T.d__law_pick.F sc__law_pick (der__law_pick T)
theorem mono__law_pick (P : Program) (w : World) (base : Heap) (T : Facts K mg) {A : Around} (s : Shared) (hr : Room 2 A) (hG : A.guards = some []) : MonoC S__law_pick := monoBody (der__law_pick (P := P) (w := w) (base := base) T .none A [] s (fun _ => none) (fun _ _ _ => False) ⟨false, 0, 0, ""⟩ (hr.deeper _) hG).mono
theorem sc__law_mixed : FnScope ["deck", "some", "left", "found", "go"] ["deck", "some"] (defScope s__law_mixed) := ⟨rfl, rfl, rfl, by decide +kernel, rfl, by decide +kernel, by decide +kernel⟩
def t__law_mixed : DTS :=
  (dSeq (dPar [2, 3] (dpOwn (dFList (dVar 1)) (dpOwn (dFLst dNil) dpNil)))
  (dSeq (dFor (dRange1 (dBui (f1 lenD) (dCons (dVar 1) dNil))) (gdName 4) (dAppend 3 (dPopAt 2 (dCall 2 S__law_draw (dCons (dVar 0) (dCons (dLenOwn 2) dNil))))))
  (dRet (dVar 3))))
def S__law_mixed : DL.Spec := bodyS ["deck", "some", "left", "found", "go"] 2 t__law_mixed
theorem der__law_mixed (T : Facts K mg) (cdv : Value) (A : Around) (outer : List PySem.Env) (s : Shared) (H : Hp) (E : XK) (dk : Dk) (hr : Room 1 (A.deeper (envOfC "_law_mixed" (defScope s__law_mixed) s.heap.objs.size T.d__law_mixed.a cdv))) (hG : (A.deeper (envOfC "_law_mixed" (defScope s__law_mixed) s.heap.objs.size T.d__law_mixed.a cdv)).guards = some []) :
    DSs (cxOf (L2.CX P w) P w K mg base ["deck", "some", "left", "found", "go"] "_law_mixed" (defScope s__law_mixed) T.d__law_mixed.a cdv A outer s H E) dk (WL E) (defBody s__law_mixed) t__law_mixed :=
  have tk := takes_of (E := E) (X := cxOf (L2.CX P w) P w K mg base ["deck", "some", "left", "found", "go"] "_law_mixed" (defScope s__law_mixed) T.d__law_mixed.a cdv A outer s H E) rfl rfl rfl rfl
  (by exact by exact dss_cons (by exact ds_par2 (i := 2) (j := 3) (by rfl) sc__law_mixed.nd (by exact dp_own (by exact df_list (by rfl) T.m_list (by exact de_var 1)) (by exact dp_own (by exact df_lst da_nil) dp_nil))) (by exact dss_cons (by exact ds_for (vs := [4]) (passes_of (by rfl)) (by rfl) (by exact di_range1 (by rfl) T.m_range (by exact de_callB (call_len.or call_lenK) bui_lenD (by rfl) T.m_len PySem.boot_len (by exact by exact da_cons (by exact de_var 1) da_nil))) (by exact dg_name 4 sc__law_mixed.nd) (by exact dss_one (by exact ds_append 3 (by exact de_popAt 2 (by exact de_call (ok__law_draw T) (mono__law_draw P w base T s (hr.mono (by decide)) hG) (hr.mono (by decide)) hG tk T.d__law_draw.g T.d__law_draw.k T.d__law_draw.b (by exact by exact da_cons (by exact de_var 0) (by exact da_cons (by exact de_lenOwn 2 (by rfl) T.m_len) da_nil))))))) (dss_one (by exact ds_ret (by exact de_var 3)))))
theorem ok__law_mixed (T : Facts K mg) : FnG P w K mg base 2 T.d__law_mixed.a T.d__law_mixed.fd ["deck", "some"] (spD K mg 2 S__law_mixed) := fn_body T.d__law_mixed.F sc__law_mixed (der__law_mixed T)
theorem mono__law_mixed (P : Program) (w : World) (base : Heap) (T : Facts K mg) {A : Around} (s : Shared) (hr : Room 2 A) (hG : A.guards = some []) : MonoC S__law_mixed := monoBody (der__law_mixed (P := P) (w := w) (base := base) T .none A [] s (fun _ => none) (fun _ _ _ => False) ⟨false, 0, 0, ""⟩ (hr.deeper _) hG).mono
theorem sc__law_due : FnScope ["machine", "logic", "cell", "word", "digits", "pattern", "digit", "sign", "bit"] ["machine", "logic", "cell"] (defScope s__law_due) := ⟨rfl, rfl, rfl, by decide +kernel, rfl, by decide +kernel, by decide +kernel⟩
def t__law_due : DTS :=
  (dSeq (dPar [3, 4] (dpVal (dCall 3 S__law_bits (dCons (dOp (fOp itemOf) (dVar 1) (dC (.int 0))) (dCons (dOp (fOp itemOf) (dOp (fOp itemOf) (dVar 0) (dC (.int 1))) (dC (.int 1))) (dCons (dVar 2) dNil)))) (dpOwn (dFLst dNil) dpNil)))
  (dSeq (dFor (dSide (dOp (fOp itemOf) (dVar 1) (dC (.int 1)))) (gdTup 2 (gdCons (gdName 5) (gdCons (gdName 6) gdNil))) (dIf (dAnd (dTest (dOp (fEq false) (dOfF (dFComp (dZip (dVar 5) (dVar 3)) (gdTup 2 (gdCons (gdName 7) (gdCons (gdName 8) gdNil))) (dTest (dOp (fIn true) (dVar 7) (dTup (dCons (dC (.str "-")) (dCons (dVar 8) dNil))))) (dC (.int 1)) [7, 8])) (dLst dNil))) (dTest (dInOwn true 4 (dVar 6)))) (dAppend 4 (dVar 6)) dNext))
  (dRet (dIfE (dTest (dOp (fEq false) (dBui (f1 lenD) (dCons (dVar 4) dNil)) (dC (.int 1)))) (dOp (fOp itemOf) (dVar 4) (dC (.int 0))) (dC .none)))))
def S__law_due : DL.Spec := bodyS ["machine", "logic", "cell", "word", "digits", "pattern", "digit", "sign", "bit"] 3 t__law_due
theorem der__law_due (T : Facts K mg) (cdv : Value) (A : Around) (outer : List PySem.Env) (s : Shared) (H : Hp) (E : XK) (dk : Dk) (hr : Room 1 (A.deeper (envOfC "_law_due" (defScope s__law_due) s.heap.objs.size T.d__law_due.a cdv))) (hG : (A.deeper (envOfC "_law_due" (defScope s__law_due) s.heap.objs.size T.d__law_due.a cdv)).guards = some []) :
    DSs (cxOf (L2.CX P w) P w K mg base ["machine", "logic", "cell", "word", "digits", "pattern", "digit", "sign", "bit"] "_law_due" (defScope s__law_due) T.d__law_due.a cdv A outer s H E) dk (WL E) (defBody s__law_due) t__law_due :=
  have tk := takes_of (E := E) (X := cxOf (L2.CX P w) P w K mg base ["machine", "logic", "cell", "word", "digits", "pattern", "digit", "sign", "bit"] "_law_due" (defScope s__law_due) T.d__law_due.a cdv A outer s H E) rfl rfl rfl rfl
  (by exact by exact dss_cons (by exact ds_par2 (i := 3) (j := 4) (by rfl) sc__law_due.nd (by exact dp_val (by exact de_call (ok__law_bits T) (mono__law_bits P w base T s (hr.mono (by decide)) hG) (hr.mono (by decide)) hG tk T.d__law_bits.g T.d__law_bits.k T.d__law_bits.b (by exact by exact da_cons (by exact de_ix (by exact de_var 1) de_int) (by exact da_cons (by exact de_ix (by exact de_ix (by exact de_var 0) de_int) de_int) (by exact da_cons (by exact de_var 2) da_nil)))) (by exact dp_own (by exact df_lst da_nil) dp_nil))) (by exact dss_cons (by exact ds_for (vs := [5, 6]) (passes_of (by rfl)) (by rfl) (by exact di_side (by exact de_ix (by exact de_var 1) de_int)) (by exact dg_tup (by rfl) (by exact dgs_cons (by exact dg_name 5 sc__law_due.nd) (by exact dgs_cons (by exact dg_name 6 sc__law_due.nd) dgs_nil))) (by exact dss_one (by exact ds_if (by exact dt_w (by exact dw_and (by exact dt_cmp (op_eqD hr.units) ops_eq (by exact de_ofF (by exact df_comp (own := [("sign", 7), ("bit", 8)]) (by rfl) sc__law_due.nd (by exact di_zip (by rfl) T.m_zip (by exact de_var 5) (by exact de_var 3)) (show BlkOk ["machine", "logic", "cell", "word", "digits", "pattern", "digit", "sign", "bit"] (defScope s__law_due) _ [("sign", 7), ("bit", 8)] from ⟨rfl, by decide +kernel, by decide +kernel, by decide +kernel, by decide +kernel⟩) (fun _ _ _ _ _ => (by exact dg_tup (by rfl) (by exact dgs_cons (by exact dg_name 7 sc__law_due.nd) (by exact dgs_cons (by exact dg_name 8 sc__law_due.nd) dgs_nil)))) (fun _ _ _ _ _ => (dts_one (by exact dt_cmp opr_notIn ops_in (by exact de_var 7) (by exact de_tup (by exact by exact da_cons de_str (by exact da_cons (by exact de_var 8) da_nil)))))) (fun _ _ _ _ _ => de_int))) (by exact de_lst da_nil)) (dw_and1 (by exact dt_notInOwn 4 (by exact de_var 6))))) (by exact dss_one (by exact ds_append 4 (by exact de_var 6))) dss_nil))) (dss_one (by exact ds_ret (by exact de_ifE (by exact dt_cmp (op_eqD hr.units) ops_eq (by exact de_callB (call_len.or call_lenK) bui_lenD (by rfl) T.m_len PySem.boot_len (by exact by exact da_cons (by exact de_var 4) da_nil)) de_int) (by exact de_ix (by exact de_var 4) de_int) de_non)))))
theorem ok__law_due (T : Facts K mg) : FnG P w K mg base 2 T.d__law_due.a T.d__law_due.fd ["machine", "logic", "cell"] (spD K mg 3 S__law_due) := fn_body T.d__law_due.F sc__law_due (der__law_due T)
theorem mono__law_due (P : Program) (w : World) (base : Heap) (T : Facts K mg) {A : Around} (s : Shared) (hr : Room 2 A) (hG : A.guards = some []) : MonoC S__law_due := monoBody (der__law_due (P := P) (w := w) (base := base) T .none A [] s (fun _ => none) (fun _ _ _ => False) ⟨false, 0, 0, ""⟩ (hr.deeper _) hG).mono
theorem sc_is_string : FnScope ["scheme", "thing", "digit"] ["scheme", "thing"] (defScope s_is_string) := ⟨rfl, rfl, rfl, by decide +kernel, rfl, by decide +kernel, by decide +kernel⟩
def t_is_string : DTS :=
  (dRet (dAndV (dIsi (isiB "tuple") (dVar 1)) (dBui (f1 allOf) (dCons (dOfF (dFComp (dSide (dVar 1)) (gdName 2) dYes (dCall 2 S_is_digit (dCons (dVar 0) (dCons (dVar 2) dNil))) [2])) dNil))))
def S_is_string : DL.Spec := bodyS ["scheme", "thing", "digit"] 2 t_is_string
theorem der_is_string (T : Facts K mg) (cdv : Value) (A : Around) (outer : List PySem.Env) (s : Shared) (H : Hp) (E : XK) (dk : Dk) (hr : Room 2 (A.deeper (envOfC "is_string" (defScope s_is_string) s.heap.objs.size T.d_is_string.a cdv))) (hG : (A.deeper (envOfC "is_string" (defScope s_is_string) s.heap.objs.size T.d_is_string.a cdv)).guards = some []) :
    DSs (cxOf (L2.CX P w) P w K mg base ["scheme", "thing", "digit"] "is_string" (defScope s_is_string) T.d_is_string.a cdv A outer s H E) dk (WL E) (defBody s_is_string) t_is_string :=
  have tk := takes_of (E := E) (X := cxOf (L2.CX P w) P w K mg base ["scheme", "thing", "digit"] "is_string" (defScope s_is_string) T.d_is_string.a cdv A outer s H E) rfl rfl rfl rfl
  (by exact dss_one (by exact ds_ret (by exact by exact de_and (by exact de_isi (by rfl) T.m_isinstance (by rfl) T.m_tuple boot_tuple (by decide) (by exact de_var 1)) (de_one (by exact de_callB (cr_all (by rfl)) bui_all (by rfl) T.m_all (by decide +kernel) (by exact by exact da_cons (by exact de_ofF (by exact df_comp (own := [("digit", 2)]) (by rfl) sc_is_string.nd (by exact di_side (by exact de_var 1)) (show BlkOk ["scheme", "thing", "digit"] (defScope s_is_string) _ [("digit", 2)] from ⟨rfl, by decide +kernel, by decide +kernel, by decide +kernel, by decide +kernel⟩) (fun _ _ _ _ _ => (by exact dg_name 2 sc_is_string.nd)) (fun _ _ _ _ _ => dts_nil) (fun _ _ _ _ _ => (by exact de_call (ok_is_digit T) (mono_is_digit P w base T s (hr.mono (by decide)) hG) (hr.mono (by decide)) hG takesF T.d_is_digit.g T.d_is_digit.k T.d_is_digit.b (by exact by exact da_cons (by exact de_var 0) (by exact da_cons (by exact de_var 2) da_nil)))))) da_nil))))))
theorem ok_is_string (T : Facts K mg) : FnG P w K mg base 3 T.d_is_string.a T.d_is_string.fd ["scheme", "thing"] (spD K mg 2 S_is_string) := fn_body T.d_is_string.F sc_is_string (der_is_string T)
theorem mono_is_string (P : Program) (w : World) (base : Heap) (T : Facts K mg) {A : Around} (s : Shared) (hr : Room 3 A) (hG : A.guards = some []) : MonoC S_is_string := monoBody (der_is_string (P := P) (w := w) (base := base) T .none A [] s (fun _ => none) (fun _ _ _ => False) ⟨false, 0, 0, ""⟩ (hr.deeper _) hG).mono
theorem sc_is_look_value : FnScope ["thing"] ["thing"] (defScope s_is_look_value) := ⟨rfl, rfl, rfl, by decide +kernel, rfl, by decide +kernel, by decide +kernel⟩
def t_is_look_value : DTS :=
  (dRet (dAndV (dCall 2 S_is_tuple (dCons (dVar 0) (dCons (dC (.int 3)) dNil))) (dAndV (dCall 2 S_is_from (dCons (dOp (fOp itemOf) (dVar 0) (dC (.int 0))) (dCons (dC (.int 0)) dNil))) (dAndV (dCall 2 S_is_from (dCons (dOp (fOp itemOf) (dVar 0) (dC (.int 1))) (dCons (dC (.int 0)) dNil))) (dCall 2 S_is_word_of (dCons (dOp (fOp itemOf) (dVar 0) (dC (.int 2))) (dCons (dC c_KINDS) dNil)))))))
def S_is_look_value : DL.Spec := bodyS ["thing"] 1 t_is_look_value
theorem der_is_look_value (T : Facts K mg) (cdv : Value) (A : Around) (outer : List PySem.Env) (s : Shared) (H : Hp) (E : XK) (dk : Dk) (hr : Room 2 (A.deeper (envOfC "is_look_value" (defScope s_is_look_value) s.heap.objs.size T.d_is_look_value.a cdv))) (hG : (A.deeper (envOfC "is_look_value" (defScope s_is_look_value) s.heap.objs.size T.d_is_look_value.a cdv)).guards = some []) :
    DSs (cxOf (L2.CX P w) P w K mg base ["thing"] "is_look_value" (defScope s_is_look_value) T.d_is_look_value.a cdv A outer s H E) dk (WL E) (defBody s_is_look_value) t_is_look_value :=
  have tk := takes_of (E := E) (X := cxOf (L2.CX P w) P w K mg base ["thing"] "is_look_value" (defScope s_is_look_value) T.d_is_look_value.a cdv A outer s H E) rfl rfl rfl rfl
  (by exact dss_one (by exact ds_ret (by exact by exact de_and (by exact de_call (ok_is_tuple T) (mono_is_tuple P w base T s (hr.mono (by decide)) hG) (hr.mono (by decide)) hG tk T.d_is_tuple.g T.d_is_tuple.k T.d_is_tuple.b (by exact by exact da_cons (by exact de_var 0) (by exact da_cons de_int da_nil))) (by exact de_and (by exact de_call (ok_is_from T) (mono_is_from P w base T s (hr.mono (by decide)) hG) (hr.mono (by decide)) hG tk T.d_is_from.g T.d_is_from.k T.d_is_from.b (by exact by exact da_cons (by exact de_ix (by exact de_var 0) de_int) (by exact da_cons de_int da_nil))) (by exact de_and (by exact de_call (ok_is_from T) (mono_is_from P w base T s (hr.mono (by decide)) hG) (hr.mono (by decide)) hG tk T.d_is_from.g T.d_is_from.k T.d_is_from.b (by exact by exact da_cons (by exact de_ix (by exact de_var 0) de_int) (by exact da_cons de_int da_nil))) (de_one (by exact de_call (ok_is_word_of T) (mono_is_word_of P w base T s (hr.mono (by decide)) hG) (hr.mono (by decide)) hG tk T.d_is_word_of.g T.d_is_word_of.k T.d_is_word_of.b (by exact by exact da_cons (by exact de_ix (by exact de_var 0) de_int) (by exact da_cons (by exact de_const (by rfl) T.g_KINDS T.r_KINDS) da_nil)))))))))
theorem ok_is_look_value (T : Facts K mg) : FnG P w K mg base 3 T.d_is_look_value.a T.d_is_look_value.fd ["thing"] (spD K mg 1 S_is_look_value) := fn_body T.d_is_look_value.F sc_is_look_value (der_is_look_value T)
theorem mono_is_look_value (P : Program) (w : World) (base : Heap) (T : Facts K mg) {A : Around} (s : Shared) (hr : Room 3 A) (hG : A.guards = some []) : MonoC S_is_look_value := monoBody (der_is_look_value (P := P) (w := w) (base := base) T .none A [] s (fun _ => none) (fun _ _ _ => False) ⟨false, 0, 0, ""⟩ (hr.deeper _) hG).mono
theorem sc_is_term : FnScope ["scheme", "length", "thing", "sign"] ["scheme", "length", "thing"] (defScope s_is_term) := ⟨rfl, rfl, rfl, by decide +kernel, rfl, by decide +kernel, by decide +kernel⟩
def t_is_term : DTS :=
  (dSeq (dIf (dOr (dNot (dTest (dCall 2 S_is_tuple (dCons (dVar 2) (dCons (dC (.int 2)) dNil))))) (dOr (dNot (dTest (dIsi (isiB "str") (dOp (fOp itemOf) (dVar 2) (dC (.int 0)))))) (dTest (dOp (fEq true) (dBui (f1 lenD) (dCons (dOp (fOp itemOf) (dVar 2) (dC (.int 0))) dNil)) (dVar 1))))) (dRet (dC (.bool false))) dNext)
  (dRet (dAndV (dBui (f1 allOf) (dCons (dOfF (dFComp (dSide (dOp (fOp itemOf) (dVar 2) (dC (.int 0)))) (gdName 3) dYes (dOp (fIn false) (dVar 3) (dC (.str "01-"))) [3])) dNil)) (dCall 2 S_is_digit (dCons (dVar 0) (dCons (dOp (fOp itemOf) (dVar 2) (dC (.int 1))) dNil))))))
def S_is_term : DL.Spec := bodyS ["scheme", "length", "thing", "sign"] 3 t_is_term
theorem der_is_term (T : Facts K mg) (cdv : Value) (A : Around) (outer : List PySem.Env) (s : Shared) (H : Hp) (E : XK) (dk : Dk) (hr : Room 2 (A.deeper (envOfC "is_term" (defScope s_is_term) s.heap.objs.size T.d_is_term.a cdv))) (hG : (A.deeper (envOfC "is_term" (defScope s_is_term) s.heap.objs.size T.d_is_term.a cdv)).guards = some []) :
    DSs (cxOf (L2.CX P w) P w K mg base ["scheme", "length", "thing", "sign"] "is_term" (defScope s_is_term) T.d_is_term.a cdv A outer s H E) dk (WL E) (defBody s_is_term) t_is_term :=
  have tk := takes_of (E := E) (X := cxOf (L2.CX P w) P w K mg base ["scheme", "length", "thing", "sign"] "is_term" (defScope s_is_term) T.d_is_term.a cdv A outer s H E) rfl rfl rfl rfl
  (by exact by exact dss_cons (by exact ds_if (by exact dt_w (by exact dw_or (by exact dt_not (by exact dt_val (by exact de_call (ok_is_tuple T) (mono_is_tuple P w base T s (hr.mono (by decide)) hG) (hr.mono (by decide)) hG tk T.d_is_tuple.g T.d_is_tuple.k T.d_is_tuple.b (by exact by exact da_cons (by exact de_var 2) (by exact da_cons de_int da_nil))))) (by exact dw_or (by exact dt_not (by exact dt_val (by exact de_isi (by rfl) T.m_isinstance (by rfl) T.m_str boot_str (by decide) (by exact de_ix (by exact de_var 2) de_int)))) (dw_or1 (by exact dt_cmp (op_neD hr.units) ops_ne (by exact de_callB (call_len.or call_lenK) bui_lenD (by rfl) T.m_len PySem.boot_len (by exact by exact da_cons (by exact de_ix (by exact de_var 2) de_int) da_nil)) (by exact de_var 1)))))) (by exact dss_one (by exact ds_ret de_bl)) dss_nil) (dss_one (by exact ds_ret (by exact by exact de_and (by exact de_callB (cr_all (by rfl)) bui_all (by rfl) T.m_all (by decide +kernel) (by exact by exact da_cons (by exact de_ofF (by exact df_comp (own := [("sign", 3)]) (by rfl) sc_is_term.nd (by exact di_side (by exact de_ix (by exact de_var 2) de_int)) (show BlkOk ["scheme", "length", "thing", "sign"] (defScope s_is_term) _ [("sign", 3)] from ⟨rfl, by decide +kernel, by decide +kernel, by decide +kernel, by decide +kernel⟩) (fun _ _ _ _ _ => (by exact dg_name 3 sc_is_term.nd)) (fun _ _ _ _ _ => dts_nil) (fun _ _ _ _ _ => (by exact de_cmp opr_in ops_in (by exact de_var 3) de_str)))) da_nil)) (de_one (by exact de_call (ok_is_digit T) (mono_is_digit P w base T s (hr.mono (by decide)) hG) (hr.mono (by decide)) hG tk T.d_is_digit.g T.d_is_digit.k T.d_is_digit.b (by exact by exact da_cons (by exact de_var 0) (by exact da_cons (by exact de_ix (by exact de_var 2) de_int) da_nil))))))))
theorem ok_is_term (T : Facts K mg) : FnG P w K mg base 3 T.d_is_term.a T.d_is_term.fd ["scheme", "length", "thing"] (spD K mg 3 S_is_term) := fn_body T.d_is_term.F sc_is_term (der_is_term T)
theorem mono_is_term (P : Program) (w : World) (base : Heap) (T : Facts K mg) {A : Around} (s : Shared) (hr : Room 3 A) (hG : A.guards = some []) : MonoC S_is_term := monoBody (der_is_term (P := P) (w := w) (base := base) T .none A [] s (fun _ => none) (fun _ _ _ => False) ⟨false, 0, 0, ""⟩ (hr.deeper _) hG).mono
theorem sc_output_of : FnScope ["machine", "logic", "cell", "word", "digits", "pattern", "digit"] ["machine", "logic", "cell"] (defScope s_output_of) := ⟨rfl, rfl, rfl, by decide +kernel, rfl, by decide +kernel, by decide +kernel⟩
def t_output_of : DTS :=
  (dSeq (dAsg 3 (dCall 3 S_word_of (dCons (dVar 0) (dCons (dOp (fOp itemOf) (dVar 1) (dC (.int 0))) (dCons (dVar 2) dNil)))))
  (dSeq (dAsg 4 (dDComp (dSide (dOp (fOp itemOf) (dVar 1) (dC (.int 1)))) (gdTup 2 (gdCons (gdName 5) (gdCons (gdName 6) gdNil))) (dTest (dCall 2 S_does_match (dCons (dVar 5) (dCons (dVar 3) dNil)))) (dVar 6) (dC (.bool true)) [5, 6]))
  (dRet (dIfE (dTest (dOp (fEq false) (dBui (f1 lenD) (dCons (dVar 4) dNil)) (dC (.int 1)))) (dOp (fOp itemOf) (dBui (f1 lstD) (dCons (dVar 4) dNil)) (dC (.int 0))) (dC .none)))))
def S_output_of : DL.Spec := bodyS ["machine", "logic", "cell", "word", "digits", "pattern", "digit"] 3 t_output_of
theorem der_output_of (T : Facts K mg) (cdv : Value) (A : Around) (outer : List PySem.Env) (s : Shared) (H : Hp) (E : XK) (dk : Dk) (hr : Room 2 (A.deeper (envOfC "output_of" (defScope s_output_of) s.heap.objs.size T.d_output_of.a cdv))) (hG : (A.deeper (envOfC "output_of" (defScope s_output_of) s.heap.objs.size T.d_output_of.a cdv)).guards = some []) :
    DSs (cxOf (L2.CX P w) P w K mg base ["machine", "logic", "cell", "word", "digits", "pattern", "digit"] "output_of" (defScope s_output_of) T.d_output_of.a cdv A outer s H E) dk (WL E) (defBody s_output_of) t_output_of :=
  have tk := takes_of (E := E) (X := cxOf (L2.CX P w) P w K mg base ["machine", "logic", "cell", "word", "digits", "pattern", "digit"] "output_of" (defScope s_output_of) T.d_output_of.a cdv A outer s H E) rfl rfl rfl rfl
  (by exact by exact dss_cons (by exact ds_set 3 sc_output_of.nd (by exact de_call (ok_word_of T) (mono_word_of P w base T s (hr.mono (by decide)) hG) (hr.mono (by decide)) hG tk T.d_word_of.g T.d_word_of.k T.d_word_of.b (by exact by exact da_cons (by exact de_var 0) (by exact da_cons (by exact de_ix (by exact de_var 1) de_int) (by exact da_cons (by exact de_var 2) da_nil))))) (by exact dss_cons (by exact ds_setDc 4 (own := [("pattern", 5), ("digit", 6)]) (by rfl) sc_output_of.nd (by exact di_side (by exact de_ix (by exact de_var 1) de_int)) (show BlkOk ["machine", "logic", "cell", "word", "digits", "pattern", "digit"] (defScope s_output_of) _ [("pattern", 5), ("digit", 6)] from ⟨rfl, by decide +kernel, by decide +kernel, by decide +kernel, by decide +kernel⟩) (fun _ _ _ _ _ => (by exact dg_tup (by rfl) (by exact dgs_cons (by exact dg_name 5 sc_output_of.nd) (by exact dgs_cons (by exact dg_name 6 sc_output_of.nd) dgs_nil)))) (fun _ _ _ _ _ => (dts_one (by exact dt_val (by exact de_call (ok_does_match T) (mono_does_match P w base T s (hr.mono (by decide)) hG) (hr.mono (by decide)) hG takesF T.d_does_match.g T.d_does_match.k T.d_does_match.b (by exact by exact da_cons (by exact de_var 5) (by exact da_cons (by exact de_var 3) da_nil)))))) (fun _ _ _ _ _ => (by exact de_var 6)) (fun _ _ _ _ _ => de_bl)) (dss_one (by exact ds_ret (by exact de_ifE (by exact dt_cmp (op_eqD hr.units) ops_eq (by exact de_callB (call_len.or call_lenK) bui_lenD (by rfl) T.m_len PySem.boot_len (by exact by exact da_cons (by exact de_var 4) da_nil)) de_int) (by exact de_ix (by exact de_callTy (call_list_of.or (call_list_dK (by rfl))) bui_listD (by rfl) T.m_list boot_list (by exact by exact da_cons (by exact de_var 4) da_nil)) de_int) de_non)))))
theorem ok_output_of (T : Facts K mg) : FnG P w K mg base 3 T.d_output_of.a T.d_output_of.fd ["machine", "logic", "cell"] (spD K mg 3 S_output_of) := fn_body T.d_output_of.F sc_output_of (der_output_of T)
theorem mono_output_of (P : Program) (w : World) (base : Heap) (T : Facts K mg) {A : Around} (s : Shared) (hr : Room 3 A) (hG : A.guards = some []) : MonoC S_output_of := monoBody (der_output_of (P := P) (w := w) (base := base) T .none A [] s (fun _ => none) (fun _ _ _ => False) ⟨false, 0, 0, ""⟩ (hr.deeper _) hG).mono
theorem sc__law_scheme : FnScope ["deck", "k", "half"] ["deck"] (defScope s__law_scheme) := ⟨rfl, rfl, rfl, by decide +kernel, rfl, by decide +kernel, by decide +kernel⟩
def t__law_scheme : DTS :=
  (dSeq (dAsg 1 (dCall 2 S__law_pick (dCons (dVar 0) (dCons (dTup (dCons (dC (.int 1)) (dCons (dC (.int 2)) (dCons (dC (.int 2)) (dCons (dC (.int 3)) (dCons (dC (.int 1)) (dCons (dC (.int 2)) (dCons (dC (.int 3)) dNil)))))))) dNil))))
  (dSeq (dAsg 2 (dOp (fOp itemOf) (dTup (dCons (dC (.int 1)) (dCons (dC (.int 1)) (dCons (dC (.int 2)) (dCons (dC (.int 4)) dNil))))) (dVar 1)))
  (dRet (dTup (dCons (dVar 1) (dCons (dOp fAdd (dVar 2) (dCall 2 S__law_draw (dCons (dVar 0) (dCons (dVar 2) dNil)))) dNil))))))
def S__law_scheme : DL.Spec := bodyS ["deck", "k", "half"] 1 t__law_scheme
theorem der__law_scheme (T : Facts K mg) (cdv : Value) (A : Around) (outer : List PySem.Env) (s : Shared) (H : Hp) (E : XK) (dk : Dk) (hr : Room 2 (A.deeper (envOfC "_law_scheme" (defScope s__law_scheme) s.heap.objs.size T.d__law_scheme.a cdv))) (hG : (A.deeper (envOfC "_law_scheme" (defScope s__law_scheme) s.heap.objs.size T.d__law_scheme.a cdv)).guards = some []) :
    DSs (cxOf (L2.CX P w) P w K mg base ["deck", "k", "half"] "_law_scheme" (defScope s__law_scheme) T.d__law_scheme.a cdv A outer s H E) dk (WL E) (defBody s__law_scheme) t__law_scheme :=
  have tk := takes_of (E := E) (X := cxOf (L2.CX P w) P w K mg base ["deck", "k", "half"] "_law_scheme" (defScope s__law_scheme) T.d__law_scheme.a cdv A outer s H E) rfl rfl rfl rfl
  (by exact by exact dss_cons (by exact ds_set 1 sc__law_scheme.nd (by exact de_call (ok__law_pick T) (mono__law_pick P w base T s (hr.mono (by decide)) hG) (hr.mono (by decide)) hG tk T.d__law_pick.g T.d__law_pick.k T.d__law_pick.b (by exact by exact da_cons (by exact de_var 0) (by exact da_cons (by exact de_tup (by exact by exact da_cons de_int (by exact da_cons de_int (by exact da_cons de_int (by exact da_cons de_int (by exact da_cons de_int (by exact da_cons de_int (by exact da_cons de_int da_nil)))))))) da_nil)))) (by exact dss_cons (by exact ds_set 2 sc__law_scheme.nd (by exact de_ix (by exact de_tup (by exact by exact da_cons de_int (by exact da_cons de_int (by exact da_cons de_int (by exact da_cons de_int da_nil))))) (by exact de_var 1))) (dss_one (by exact ds_ret (by exact de_tup (by exact by exact da_cons (by exact de_var 1) (by exact da_cons (by exact de_op opr_add ops_add (by exact de_var 2) (by exact de_call (ok__law_draw T) (mono__law_draw P w base T s (hr.mono (by decide)) hG) (hr.mono (by decide)) hG tk T.d__law_draw.g T.d__law_draw.k T.d__law_draw.b (by exact by exact da_cons (by exact de_var 0) (by exact da_cons (by exact de_var 2) da_nil)))) da_nil)))))))
theorem ok__law_scheme (T : Facts K mg) : FnG P w K mg base 3 T.d__law_scheme.a T.d__law_scheme.fd ["deck"] (spD K mg 1 S__law_scheme) := fn_body T.d__law_scheme.F sc__law_scheme (der__law_scheme T)
theorem mono__law_scheme (P : Program) (w : World) (base : Heap) (T : Facts K mg) {A : Around} (s : Shared) (hr : Room 3 A) (hG : A.guards = some []) : MonoC S__law_scheme := monoBody (der__law_scheme (P := P) (w := w) (base := base) T .none A [] s (fun _ => none) (fun _ _ _ => False) ⟨false, 0, 0, ""⟩ (hr.deeper _) hG).mono
theorem sc__law_any_logic : FnScope ["deck", "machine", "b", "terms", "signs", "digits", "go", "pattern", "at"] ["deck", "machine"] (defScope s__law_any_logic) := ⟨rfl, rfl, rfl, by decide +kernel, rfl, by decide +kernel, by decide +kernel⟩
def t__law_any_logic : DTS :=
  (dSeq (dPar [2, 3] (dpVal (dCall 2 S__law_pick (dCons (dVar 0) (dCons (dTup (dCons (dC (.int 3)) (dCons (dC (.int 4)) (dCons (dC (.int 2)) (dCons (dC (.int 5)) (dCons (dC (.int 1)) (dCons (dC (.int 6)) (dCons (dC (.int 8)) (dCons (dC (.int 12)) dNil))))))))) dNil))) (dpOwn (dFLst dNil) dpNil)))
  (dSeq (dPar [4, 5] (dpVal (dCall 2 S__law_pick (dCons (dVar 0) (dCons (dTup (dCons (dC (.str "01-")) (dCons (dC (.str "01---")) (dCons (dC (.str "01-----")) dNil)))) dNil))) (dpVal (dLstRg (dUn fNeg (dOp (fOp itemOf) (dOp (fOp itemOf) (dVar 1) (dC (.int 0))) (dC (.int 1)))) (dOp fAdd (dOp (fOp itemOf) (dOp (fOp itemOf) (dVar 1) (dC (.int 0))) (dC (.int 1))) (dC (.int 1)))) dpNil)))
  (dSeq (dFor (dRange1 (dCall 2 S__law_pick (dCons (dVar 0) (dCons (dTup (dCons (dC (.int 4)) (dCons (dC (.int 2)) (dCons (dC (.int 6)) (dCons (dC (.int 1)) (dCons (dC (.int 9)) (dCons (dC (.int 0)) (dCons (dC (.int 12)) (dCons (dC (.int 30)) dNil))))))))) dNil)))) (gdName 6) (dSeq (dAsg 7 (dM1 joinOf (dC (.str "")) (dOfF (dFComp (dRange1 (dOp fAdd (dVar 2) (dOp (fOp itemOf) (dOp (fOp itemOf) (dVar 1) (dC (.int 1))) (dC (.int 1))))) (gdName 8) dYes (dCall 2 S__law_pick (dCons (dVar 0) (dCons (dVar 4) dNil))) [8]))))
  (dAppend 3 (dTup (dCons (dVar 7) (dCons (dCall 2 S__law_pick (dCons (dVar 0) (dCons (dVar 5) dNil))) dNil))))))
  (dRet (dTup (dCons (dVar 2) (dCons (dBui (f1 tupOf) (dCons (dVar 3) dNil)) dNil)))))))
def S__law_any_logic : DL.Spec := bodyS ["deck", "machine", "b", "terms", "signs", "digits", "go", "pattern", "at"] 2 t__law_any_logic
theorem der__law_any_logic (T : Facts K mg) (cdv : Value) (A : Around) (outer : List PySem.Env) (s : Shared) (H : Hp) (E : XK) (dk : Dk) (hr : Room 2 (A.deeper (envOfC "_law_any_logic" (defScope s__law_any_logic) s.heap.objs.size T.d__law_any_logic.a cdv))) (hG : (A.deeper (envOfC "_law_any_logic" (defScope s__law_any_logic) s.heap.objs.size T.d__law_any_logic.a cdv)).guards = some []) :
    DSs (cxOf (L2.CX P w) P w K mg base ["deck", "machine", "b", "terms", "signs", "digits", "go", "pattern", "at"] "_law_any_logic" (defScope s__law_any_logic) T.d__law_any_logic.a cdv A outer s H E) dk (WL E) (defBody s__law_any_logic) t__law_any_logic :=
  have tk := takes_of (E := E) (X := cxOf (L2.CX P w) P w K mg base ["deck", "machine", "b", "terms", "signs", "digits", "go", "pattern", "at"] "_law_any_logic" (defScope s__law_any_logic) T.d__law_any_logic.a cdv A outer s H E) rfl rfl rfl rfl
  (by exact by exact dss_cons (by exact ds_par2 (i := 2) (j := 3) (by rfl) sc__law_any_logic.nd (by exact dp_val (by exact de_call (ok__law_pick T) (mono__law_pick P w base T s (hr.mono (by decide)) hG) (hr.mono (by decide)) hG tk T.d__law_pick.g T.d__law_pick.k T.d__law_pick.b (by exact by exact da_cons (by exact de_var 0) (by exact da_cons (by exact de_tup (by exact by exact da_cons de_int (by exact da_cons de_int (by exact da_cons de_int (by exact da_cons de_int (by exact da_cons de_int (by exact da_cons de_int (by exact da_cons de_int (by exact da_cons de_int da_nil))))))))) da_nil))) (by exact dp_own (by exact df_lst da_nil) dp_nil))) (by exact dss_cons (by exact ds_parG (is := [4, 5]) (by rfl) (by exact dp_val (by exact de_call (ok__law_pick T) (mono__law_pick P w base T s (hr.mono (by decide)) hG) (hr.mono (by decide)) hG tk T.d__law_pick.g T.d__law_pick.k T.d__law_pick.b (by exact by exact da_cons (by exact de_var 0) (by exact da_cons (by exact de_tup (by exact by exact da_cons de_str (by exact da_cons de_str (by exact da_cons de_str da_nil)))) da_nil))) (by exact dp_val (by exact de_listRg2 (by rfl) (by rfl) T.m_list (by rfl) T.m_range (by exact de_neg (by exact de_ix (by exact de_ix (by exact de_var 1) de_int) de_int)) (by exact de_op opr_add ops_add (by exact de_ix (by exact de_ix (by exact de_var 1) de_int) de_int) de_int)) dp_nil)) (by exact pgn_cons (pg_name (i := 4) sc__law_any_logic.nd rfl (by first | exact .inl rfl | exact .inr rfl)) (by exact pgn_cons (pg_name (i := 5) sc__law_any_logic.nd rfl (by first | exact .inl rfl | exact .inr rfl)) pgn_nil))) (by exact dss_cons (by exact ds_for (vs := [6]) (passes_of (by rfl)) (by rfl) (by exact di_range1 (by rfl) T.m_range (by exact de_call (ok__law_pick T) (mono__law_pick P w base T s (hr.mono (by decide)) hG) (hr.mono (by decide)) hG tk T.d__law_pick.g T.d__law_pick.k T.d__law_pick.b (by exact by exact da_cons (by exact de_var 0) (by exact da_cons (by exact de_tup (by exact by exact da_cons de_int (by exact da_cons de_int (by exact da_cons de_int (by exact da_cons de_int (by exact da_cons de_int (by exact da_cons de_int (by exact da_cons de_int (by exact da_cons de_int da_nil))))))))) da_nil)))) (by exact dg_name 6 sc__law_any_logic.nd) (by exact by exact dss_cons (by exact ds_set 7 sc__law_any_logic.nd (by exact de_m1 PySem.F.slot_str_join PySem.F.type_str_join mt_join mth_join de_str (by exact de_ofF (by exact df_comp (own := [("at", 8)]) (by rfl) sc__law_any_logic.nd (by exact di_range1 (by rfl) T.m_range (by exact de_op opr_add ops_add (by exact de_var 2) (by exact de_ix (by exact de_ix (by exact de_var 1) de_int) de_int))) (show BlkOk ["deck", "machine", "b", "terms", "signs", "digits", "go", "pattern", "at"] (defScope s__law_any_logic) _ [("at", 8)] from ⟨rfl, by decide +kernel, by decide +kernel, by decide +kernel, by decide +kernel⟩) (fun _ _ _ _ _ => (by exact dg_name 8 sc__law_any_logic.nd)) (fun _ _ _ _ _ => dts_nil) (fun _ _ _ _ _ => (by exact de_call (ok__law_pick T) (mono__law_pick P w base T s (hr.mono (by decide)) hG) (hr.mono (by decide)) hG takesF T.d__law_pick.g T.d__law_pick.k T.d__law_pick.b (by exact by exact da_cons (by exact de_var 0) (by exact da_cons (by exact de_var 4) da_nil)))))))) (dss_one (by exact ds_append 3 (by exact de_tup (by exact by exact da_cons (by exact de_var 7) (by exact da_cons (by exact de_call (ok__law_pick T) (mono__law_pick P w base T s (hr.mono (by decide)) hG) (hr.mono (by decide)) hG tk T.d__law_pick.g T.d__law_pick.k T.d__law_pick.b (by exact by exact da_cons (by exact de_var 0) (by exact da_cons (by exact de_var 5) da_nil))) da_nil))))))) (dss_one (by exact ds_ret (by exact de_tup (by exact by exact da_cons (by exact de_var 2) (by exact da_cons (by exact de_callTy call_tuple_of bui_tuple (by rfl) T.m_tuple boot_tuple (by exact by exact da_cons (by exact de_var 3) da_nil)) da_nil))))))))
theorem ok__law_any_logic (T : Facts K mg) : FnG P w K mg base 3 T.d__law_any_logic.a T.d__law_any_logic.fd ["deck", "machine"] (spD K mg 2 S__law_any_logic) := fn_body T.d__law_any_logic.F sc__law_any_logic (der__law_any_logic T)
theorem mono__law_any_logic (P : Program) (w : World) (base : Heap) (T : Facts K mg) {A : Around} (s : Shared) (hr : Room 3 A) (hG : A.guards = some []) : MonoC S__law_any_logic := monoBody (der__law_any_logic (P := P) (w := w) (base := base) T .none A [] s (fun _ => none) (fun _ _ _ => False) ⟨false, 0, 0, ""⟩ (hr.deeper _) hG).mono
theorem sc__law_cells : FnScope ["deck", "machine", "b", "found", "go", "y"] ["deck", "machine", "b"] (defScope s__law_cells) := ⟨rfl, rfl, rfl, by decide +kernel, rfl, by decide +kernel, by decide +kernel⟩
def t__law_cells : DTS :=
  (dSeq (dAsgF 3 (dFLst dNil))
  (dSeq (dFor (dRange1 (dC (.int 10))) (gdName 4) (dSeq (dAsg 5 (dOp fSub (dCall 2 S__law_draw (dCons (dVar 0) (dCons (dOp fShl (dC (.int 4)) (dVar 2)) dNil))) (dOp fShl (dC (.int 2)) (dVar 2))))
  (dSeq (dIf (dTest (dOp fGt (dVar 4) (dC (.int 7)))) (dAsg 5 (dCall 2 S__law_pick (dCons (dVar 0) (dCons (dTup (dCons (dC (.int 0)) (dCons (dUn fNeg (dC (.int 1))) (dCons (dOp fSub (dOp fShl (dC (.int 1)) (dVar 2)) (dC (.int 1))) (dCons (dUn fNeg (dOp fShl (dC (.int 1)) (dOp fSub (dVar 2) (dC (.int 1))))) (dCons (dOp fShl (dC (.int 1)) (dOp fSub (dVar 2) (dC (.int 1)))) (dCons (dOp fPow (dC (.int 10)) (dC (.int 30))) (dCons (dOp fSub (dUn fNeg (dOp fPow (dC (.int 10)) (dC (.int 30)))) (dC (.int 3))) dNil)))))))) dNil)))) dNext)
  (dAppend 3 (dTup (dCons (dCall 2 S__law_draw (dCons (dVar 0) (dCons (dOp fShl (dC (.int 1)) (dOp (fOp itemOf) (dOp (fOp itemOf) (dVar 1) (dC (.int 1))) (dC (.int 1)))) dNil))) (dCons (dVar 5) dNil)))))))
  (dRet (dVar 3))))
def S__law_cells : DL.Spec := bodyS ["deck", "machine", "b", "found", "go", "y"] 3 t__law_cells
theorem der__law_cells (T : Facts K mg) (cdv : Value) (A : Around) (outer : List PySem.Env) (s : Shared) (H : Hp) (E : XK) (dk : Dk) (hr : Room 2 (A.deeper (envOfC "_law_cells" (defScope s__law_cells) s.heap.objs.size T.d__law_cells.a cdv))) (hG : (A.deeper (envOfC "_law_cells" (defScope s__law_cells) s.heap.objs.size T.d__law_cells.a cdv)).guards = some []) :
    DSs (cxOf (L2.CX P w) P w K mg base ["deck", "machine", "b", "found", "go", "y"] "_law_cells" (defScope s__law_cells) T.d__law_cells.a cdv A outer s H E) dk (WL E) (defBody s__law_cells) t__law_cells :=
  have tk := takes_of (E := E) (X := cxOf (L2.CX P w) P w K mg base ["deck", "machine", "b", "found", "go", "y"] "_law_cells" (defScope s__law_cells) T.d__law_cells.a cdv A outer s H E) rfl rfl rfl rfl
  (by exact by exact dss_cons (by exact ds_setOwn 3 sc__law_cells.nd (by exact df_lst da_nil)) (by exact dss_cons (by exact ds_for (vs := [4]) (passes_of (by rfl)) (by rfl) (by exact di_range1 (by rfl) T.m_range de_int) (by exact dg_name 4 sc__law_cells.nd) (by exact by exact dss_cons (by exact ds_set 5 sc__law_cells.nd (by exact de_op op_sub ops_int0 (by exact de_call (ok__law_draw T) (mono__law_draw P w base T s (hr.mono (by decide)) hG) (hr.mono (by decide)) hG tk T.d__law_draw.g T.d__law_draw.k T.d__law_draw.b (by exact by exact da_cons (by exact de_var 0) (by exact da_cons (by exact de_op opr_shl ops_int de_int (by exact de_var 2)) da_nil))) (by exact de_op opr_shl ops_int de_int (by exact de_var 2)))) (by exact dss_cons (by exact ds_if (by exact dt_cmp op_gt ops_intB (by exact de_var 4) de_int) (by exact dss_one (by exact ds_set 5 sc__law_cells.nd (by exact de_call (ok__law_pick T) (mono__law_pick P w base T s (hr.mono (by decide)) hG) (hr.mono (by decide)) hG tk T.d__law_pick.g T.d__law_pick.k T.d__law_pick.b (by exact by exact da_cons (by exact de_var 0) (by exact da_cons (by exact de_tup (by exact by exact da_cons de_int (by exact da_cons (by exact de_neg de_int) (by exact da_cons (by exact de_op op_sub ops_int0 (by exact de_op opr_shl ops_int de_int (by exact de_var 2)) de_int) (by exact da_cons (by exact de_neg (by exact de_op opr_shl ops_int de_int (by exact de_op op_sub ops_int0 (by exact de_var 2) de_int))) (by exact da_cons (by exact de_op opr_shl ops_int de_int (by exact de_op op_sub ops_int0 (by exact de_var 2) de_int)) (by exact da_cons (by exact de_op op_pow ops_int de_int de_int) (by exact da_cons (by exact de_op op_sub ops_int0 (by exact de_neg (by exact de_op op_pow ops_int de_int de_int)) de_int) da_nil)))))))) da_nil))))) dss_nil) (dss_one (by exact ds_append 3 (by exact de_tup (by exact by exact da_cons (by exact de_call (ok__law_draw T) (mono__law_draw P w base T s (hr.mono (by decide)) hG) (hr.mono (by decide)) hG tk T.d__law_draw.g T.d__law_draw.k T.d__law_draw.b (by exact by exact da_cons (by exact de_var 0) (by exact da_cons (by exact de_op opr_shl ops_int de_int (by exact de_ix (by exact de_ix (by exact de_var 1) de_int) de_int)) da_nil))) (by exact da_cons (by exact de_var 5) da_nil)))))))) (dss_one (by exact ds_ret (by exact de_var 3)))))
theorem ok__law_cells (T : Facts K mg) : FnG P w K mg base 3 T.d__law_cells.a T.d__law_cells.fd ["deck", "machine", "b"] (spD K mg 3 S__law_cells) := fn_body T.d__law_cells.F sc__law_cells (der__law_cells T)
theorem mono__law_cells (P : Program) (w : World) (base : Heap) (T : Facts K mg) {A : Around} (s : Shared) (hr : Room 3 A) (hG : A.guards = some []) : MonoC S__law_cells := monoBody (der__law_cells (P := P) (w := w) (base := base) T .none A [] s (fun _ => none) (fun _ _ _ => False) ⟨false, 0, 0, ""⟩ (hr.deeper _) hG).mono
theorem sc_is_row : FnScope ["scheme", "thing"] ["scheme", "thing"] (defScope s_is_row) := ⟨rfl, rfl, rfl, by decide +kernel, rfl, by decide +kernel, by decide +kernel⟩
def t_is_row : DTS :=
  (dRet (dAndV (dCall 2 S_is_tuple (dCons (dVar 1) (dCons (dC (.int 2)) dNil))) (dAndV (dCall 1 S_is_integer (dCons (dOp (fOp itemOf) (dVar 1) (dC (.int 0))) dNil)) (dAndV (dCall 2 S_is_string (dCons (dVar 0) (dCons (dOp (fOp itemOf) (dVar 1) (dC (.int 1))) dNil))) (dOp (fEq true) (dOp (fOp itemOf) (dVar 1) (dC (.int 1))) (dTup dNil))))))
def S_is_row : DL.Spec := bodyS ["scheme", "thing"] 2 t_is_row
theorem der_is_row (T : Facts K mg) (cdv : Value) (A : Around) (outer : List PySem.Env) (s : Shared) (H : Hp) (E : XK) (dk : Dk) (hr : Room 3 (A.deeper (envOfC "is_row" (defScope s_is_row) s.heap.objs.size T.d_is_row.a cdv))) (hG : (A.deeper (envOfC "is_row" (defScope s_is_row) s.heap.objs.size T.d_is_row.a cdv)).guards = some []) :
    DSs (cxOf (L2.CX P w) P w K mg base ["scheme", "thing"] "is_row" (defScope s_is_row) T.d_is_row.a cdv A outer s H E) dk (WL E) (defBody s_is_row) t_is_row :=
  have tk := takes_of (E := E) (X := cxOf (L2.CX P w) P w K mg base ["scheme", "thing"] "is_row" (defScope s_is_row) T.d_is_row.a cdv A outer s H E) rfl rfl rfl rfl
  (by exact dss_one (by exact ds_ret (by exact by exact de_and (by exact de_call (ok_is_tuple T) (mono_is_tuple P w base T s (hr.mono (by decide)) hG) (hr.mono (by decide)) hG tk T.d_is_tuple.g T.d_is_tuple.k T.d_is_tuple.b (by exact by exact da_cons (by exact de_var 1) (by exact da_cons de_int da_nil))) (by exact de_and (by exact de_call (ok_is_integer T) (mono_is_integer P w base T s (hr.mono (by decide)) hG) (hr.mono (by decide)) hG tk T.d_is_integer.g T.d_is_integer.k T.d_is_integer.b (by exact by exact da_cons (by exact de_ix (by exact de_var 1) de_int) da_nil)) (by exact de_and (by exact de_call (ok_is_string T) (mono_is_string P w base T s (hr.mono (by decide)) hG) (hr.mono (by decide)) hG tk T.d_is_string.g T.d_is_string.k T.d_is_string.b (by exact by exact da_cons (by exact de_var 0) (by exact da_cons (by exact de_ix (by exact de_var 1) de_int) da_nil))) (de_one (by exact de_cmp (op_neD hr.units) ops_ne (by exact de_ix (by exact de_var 1) de_int) (by exact de_tup da_nil))))))))
theorem ok_is_row (T : Facts K mg) : FnG P w K mg base 4 T.d_is_row.a T.d_is_row.fd ["scheme", "thing"] (spD K mg 2 S_is_row) := fn_body T.d_is_row.F sc_is_row (der_is_row T)
theorem mono_is_row (P : Program) (w : World) (base : Heap) (T : Facts K mg) {A : Around} (s : Shared) (hr : Room 4 A) (hG : A.guards = some []) : MonoC S_is_row := monoBody (der_is_row (P := P) (w := w) (base := base) T .none A [] s (fun _ => none) (fun _ _ _ => False) ⟨false, 0, 0, ""⟩ (hr.deeper _) hG).mono
theorem sc_is_logic_value : FnScope ["machine", "thing", "length", "term"] ["machine", "thing"] (defScope s_is_logic_value) := ⟨rfl, rfl, rfl, by decide +kernel, rfl, by decide +kernel, by decide +kernel⟩
def t_is_logic_value : DTS :=
  (dSeq (dIf (dOr (dNot (dTest (dCall 2 S_is_tuple (dCons (dVar 1) (dCons (dC (.int 2)) dNil))))) (dOr (dNot (dTest (dCall 2 S_is_from (dCons (dOp (fOp itemOf) (dVar 1) (dC (.int 0))) (dCons (dC (.int 1)) dNil))))) (dNot (dTest (dIsi (isiB "tuple") (dOp (fOp itemOf) (dVar 1) (dC (.int 1)))))))) (dRet (dC (.bool false))) dNext)
  (dSeq (dAsg 2 (dOp fAdd (dOp (fOp itemOf) (dVar 1) (dC (.int 0))) (dOp (fOp itemOf) (dOp (fOp itemOf) (dVar 0) (dC (.int 1))) (dC (.int 1)))))
  (dRet (dBui (f1 allOf) (dCons (dOfF (dFComp (dSide (dOp (fOp itemOf) (dVar 1) (dC (.int 1)))) (gdName 3) dYes (dCall 3 S_is_term (dCons (dOp (fOp itemOf) (dVar 0) (dC (.int 0))) (dCons (dVar 2) (dCons (dVar 3) dNil)))) [3])) dNil)))))
def S_is_logic_value : DL.Spec := bodyS ["machine", "thing", "length", "term"] 2 t_is_logic_value
theorem der_is_logic_value (T : Facts K mg) (cdv : Value) (A : Around) (outer : List PySem.Env) (s : Shared) (H : Hp) (E : XK) (dk : Dk) (hr : Room 3 (A.deeper (envOfC "is_logic_value" (defScope s_is_logic_value) s.heap.objs.size T.d_is_logic_value.a cdv))) (hG : (A.deeper (envOfC "is_logic_value" (defScope s_is_logic_value) s.heap.objs.size T.d_is_logic_value.a cdv)).guards = some []) :
    DSs (cxOf (L2.CX P w) P w K mg base ["machine", "thing", "length", "term"] "is_logic_value" (defScope s_is_logic_value) T.d_is_logic_value.a cdv A outer s H E) dk (WL E) (defBody s_is_logic_value) t_is_logic_value :=
  have tk := takes_of (E := E) (X := cxOf (L2.CX P w) P w K mg base ["machine", "thing", "length", "term"] "is_logic_value" (defScope s_is_logic_value) T.d_is_logic_value.a cdv A outer s H E) rfl rfl rfl rfl
  (by exact by exact dss_cons (by exact ds_if (by exact dt_w (by exact dw_or (by exact dt_not (by exact dt_val (by exact de_call (ok_is_tuple T) (mono_is_tuple P w base T s (hr.mono (by decide)) hG) (hr.mono (by decide)) hG tk T.d_is_tuple.g T.d_is_tuple.k T.d_is_tuple.b (by exact by exact da_cons (by exact de_var 1) (by exact da_cons de_int da_nil))))) (by exact dw_or (by exact dt_not (by exact dt_val (by exact de_call (ok_is_from T) (mono_is_from P w base T s (hr.mono (by decide)) hG) (hr.mono (by decide)) hG tk T.d_is_from.g T.d_is_from.k T.d_is_from.b (by exact by exact da_cons (by exact de_ix (by exact de_var 1) de_int) (by exact da_cons de_int da_nil))))) (dw_or1 (by exact dt_not (by exact dt_val (by exact de_isi (by rfl) T.m_isinstance (by rfl) T.m_tuple boot_tuple (by decide) (by exact de_ix (by exact de_var 1) de_int)))))))) (by exact dss_one (by exact ds_ret de_bl)) dss_nil) (by exact dss_cons (by exact ds_set 2 sc_is_logic_value.nd (by exact de_op opr_add ops_add (by exact de_ix (by exact de_var 1) de_int) (by exact de_ix (by exact de_ix (by exact de_var 0) de_int) de_int))) (dss_one (by exact ds_ret (by exact de_callB (cr_all (by rfl)) bui_all (by rfl) T.m_all (by decide +kernel) (by exact by exact da_cons (by exact de_ofF (by exact df_comp (own := [("term", 3)]) (by rfl) sc_is_logic_value.nd (by exact di_side (by exact de_ix (by exact de_var 1) de_int)) (show BlkOk ["machine", "thing", "length", "term"] (defScope s_is_logic_value) _ [("term", 3)] from ⟨rfl, by decide +kernel, by decide +kernel, by decide +kernel, by decide +kernel⟩) (fun _ _ _ _ _ => (by exact dg_name 3 sc_is_logic_value.nd)) (fun _ _ _ _ _ => dts_nil) (fun _ _ _ _ _ => (by exact de_call (ok_is_term T) (mono_is_term P w base T s (hr.mono (by decide)) hG) (hr.mono (by decide)) hG takesF T.d_is_term.g T.d_is_term.k T.d_is_term.b (by exact by exact da_cons (by exact de_ix (by exact de_var 0) de_int) (by exact da_cons (by exact de_var 2) (by exact da_cons (by exact de_var 3) da_nil))))))) da_nil))))))
theorem ok_is_logic_value (T : Facts K mg) : FnG P w K mg base 4 T.d_is_logic_value.a T.d_is_logic_value.fd ["machine", "thing"] (spD K mg 2 S_is_logic_value) := fn_body T.d_is_logic_value.F sc_is_logic_value (der_is_logic_value T)
theorem mono_is_logic_value (P : Program) (w : World) (base : Heap) (T : Facts K mg) {A : Around} (s : Shared) (hr : Room 4 A) (hG : A.guards = some []) : MonoC S_is_logic_value := monoBody (der_is_logic_value (P := P) (w := w) (base := base) T .none A [] s (fun _ => none) (fun _ _ _ => False) ⟨false, 0, 0, ""⟩ (hr.deeper _) hG).mono
theorem sc__law_any_machine : FnScope ["deck", "most", "scheme", "s", "t", "digits", "table", "left", "i", "many", "low", "go"] ["deck", "most"] (defScope s__law_any_machine) := ⟨rfl, rfl, rfl, by decide +kernel, rfl, by decide +kernel, by decide +kernel⟩
def t__law_any_machine : DTS :=
  (dSeq (dPar [2, 3] (dpVal (dCall 1 S__law_scheme (dCons (dVar 0) dNil)) (dpVal (dCall 2 S__law_pick (dCons (dVar 0) (dCons (dTup (dCons (dC (.int 0)) (dCons (dC (.int 1)) (dCons (dC (.int 2)) (dCons (dC (.int 0)) (dCons (dC (.int 1)) (dCons (dC (.int 3)) (dCons (dC (.int 4)) dNil)))))))) dNil))) dpNil)))
  (dSeq (dPar [4, 5, 6] (dpVal (dCall 2 S__law_draw (dCons (dVar 0) (dCons (dBui (f2 min2Of) (dCons (dC (.int 5)) (dCons (dOp fSub (dC (.int 7)) (dVar 3)) dNil))) dNil))) (dpVal (dLstRg (dUn fNeg (dOp (fOp itemOf) (dVar 2) (dC (.int 1)))) (dOp fAdd (dOp (fOp itemOf) (dVar 2) (dC (.int 1))) (dC (.int 1)))) (dpOwn (dFLst dNil) dpNil))))
  (dSeq (dAsg 7 (dOp fSub (dVar 1) (dOp fShl (dC (.int 1)) (dVar 3))))
  (dSeq (dFor (dRange1 (dOp fShl (dC (.int 1)) (dVar 3))) (gdName 8) (dSeq (dAsg 9 (dBui (f2 min2Of) (dCons (dVar 7) (dCons (dCall 2 S__law_pick (dCons (dVar 0) (dCons (dTup (dCons (dC (.int 1)) (dCons (dC (.int 0)) (dCons (dC (.int 3)) (dCons (dC (.int 5)) (dCons (dC (.int 2)) (dCons (dC (.int 8)) (dCons (dC (.int 4)) (dCons (dC (.int 16)) dNil))))))))) dNil))) dNil))))
  (dSeq (dAsg 7 (dOp fSub (dVar 7) (dVar 9)))
  (dSeq (dAsg 10 (dCall 2 S__law_pick (dCons (dVar 0) (dCons (dTup (dCons (dUn fNeg (dC (.int 4))) (dCons (dC (.int 0)) (dCons (dUn fNeg (dC (.int 1))) (dCons (dC (.int 3)) (dCons (dUn fNeg (dC (.int 8))) (dCons (dUn fNeg (dVar 9)) (dCons (dOp fSub (dC (.int 1)) (dVar 9)) (dCons (dC (.int 7)) (dCons (dUn fNeg (dC (.int 16))) (dCons (dC (.int 100)) (dCons (dUn fNeg (dC (.int 130))) (dCons (dUn fNeg (dC (.int 2000))) (dCons (dC (.int 1980)) dNil)))))))))))))) dNil))))
  (dAppend 6 (dTup (dCons (dVar 10) (dCons (dBui (f1 tupOf) (dCons (dOfF (dFComp (dRange1 (dOp fAdd (dC (.int 1)) (dVar 9))) (gdName 11) dYes (dCall 2 S__law_pick (dCons (dVar 0) (dCons (dVar 5) dNil))) [11])) dNil)) dNil))))))))
  (dRet (dTup (dCons (dVar 2) (dCons (dTup (dCons (dVar 4) (dCons (dVar 3) (dCons (dCall 2 S__law_pick (dCons (dVar 0) (dCons (dTup (dCons (dC (.str "one")) (dCons (dC (.str "pair")) dNil))) dNil))) dNil)))) (dCons (dBui (f1 tupOf) (dCons (dVar 6) dNil)) dNil)))))))))
def S__law_any_machine : DL.Spec := bodyS ["deck", "most", "scheme", "s", "t", "digits", "table", "left", "i", "many", "low", "go"] 2 t__law_any_machine
theorem der__law_any_machine (T : Facts K mg) (cdv : Value) (A : Around) (outer : List PySem.Env) (s : Shared) (H : Hp) (E : XK) (dk : Dk) (hr : Room 3 (A.deeper (envOfC "_law_any_machine" (defScope s__law_any_machine) s.heap.objs.size T.d__law_any_machine.a cdv))) (hG : (A.deeper (envOfC "_law_any_machine" (defScope s__law_any_machine) s.heap.objs.size T.d__law_any_machine.a cdv)).guards = some []) :
    DSs (cxOf (L2.CX P w) P w K mg base ["deck", "most", "scheme", "s", "t", "digits", "table", "left", "i", "many", "low", "go"] "_law_any_machine" (defScope s__law_any_machine) T.d__law_any_machine.a cdv A outer s H E) dk (WL E) (defBody s__law_any_machine) t__law_any_machine :=
  have tk := takes_of (E := E) (X := cxOf (L2.CX P w) P w K mg base ["deck", "most", "scheme", "s", "t", "digits", "table", "left", "i", "many", "low", "go"] "_law_any_machine" (defScope s__law_any_machine) T.d__law_any_machine.a cdv A outer s H E) rfl rfl rfl rfl
  (by exact by exact dss_cons (by exact ds_par2 (i := 2) (j := 3) (by rfl) sc__law_any_machine.nd (by exact dp_val (by exact de_call (ok__law_scheme T) (mono__law_scheme P w base T s (hr.mono (by decide)) hG) (hr.mono (by decide)) hG tk T.d__law_scheme.g T.d__law_scheme.k T.d__law_scheme.b (by exact by exact da_cons (by exact de_var 0) da_nil)) (by exact dp_val (by exact de_call (ok__law_pick T) (mono__law_pick P w base T s (hr.mono (by decide)) hG) (hr.mono (by decide)) hG tk T.d__law_pick.g T.d__law_pick.k T.d__law_pick.b (by exact by exact da_cons (by exact de_var 0) (by exact da_cons (by exact de_tup (by exact by exact da_cons de_int (by exact da_cons de_int (by exact da_cons de_int (by exact da_cons de_int (by exact da_cons de_int (by exact da_cons de_int (by exact da_cons de_int da_nil)))))))) da_nil))) dp_nil))) (by exact dss_cons (by exact ds_parG (is := [4, 5, 6]) (by rfl) (by exact dp_val (by exact de_call (ok__law_draw T) (mono__law_draw P w base T s (hr.mono (by decide)) hG) (hr.mono (by decide)) hG tk T.d__law_draw.g T.d__law_draw.k T.d__law_draw.b (by exact by exact da_cons (by exact de_var 0) (by exact da_cons (by exact de_callB (call_min2 (by rfl)) bui_min2 (by rfl) T.m_min (by decide +kernel) (by exact by exact da_cons de_int (by exact da_cons (by exact de_op op_sub ops_int0 de_int (by exact de_var 3)) da_nil))) da_nil))) (by exact dp_val (by exact de_listRg2 (by rfl) (by rfl) T.m_list (by rfl) T.m_range (by exact de_neg (by exact de_ix (by exact de_var 2) de_int)) (by exact de_op opr_add ops_add (by exact de_ix (by exact de_var 2) de_int) de_int)) (by exact dp_own (by exact df_lst da_nil) dp_nil))) (by exact pgn_cons (pg_name (i := 4) sc__law_any_machine.nd rfl (by first | exact .inl rfl | exact .inr rfl)) (by exact pgn_cons (pg_name (i := 5) sc__law_any_machine.nd rfl (by first | exact .inl rfl | exact .inr rfl)) (by exact pgn_cons (pg_name (i := 6) sc__law_any_machine.nd rfl (by first | exact .inl rfl | exact .inr rfl)) pgn_nil)))) (by exact dss_cons (by exact ds_set 7 sc__law_any_machine.nd (by exact de_op op_sub ops_int0 (by exact de_var 1) (by exact de_op opr_shl ops_int de_int (by exact de_var 3)))) (by exact dss_cons (by exact ds_for (vs := [8]) (passes_of (by rfl)) (by rfl) (by exact di_range1 (by rfl) T.m_range (by exact de_op opr_shl ops_int de_int (by exact de_var 3))) (by exact dg_name 8 sc__law_any_machine.nd) (by exact by exact dss_cons (by exact ds_set 9 sc__law_any_machine.nd (by exact de_callB (call_min2 (by rfl)) bui_min2 (by rfl) T.m_min (by decide +kernel) (by exact by exact da_cons (by exact de_var 7) (by exact da_cons (by exact de_call (ok__law_pick T) (mono__law_pick P w base T s (hr.mono (by decide)) hG) (hr.mono (by decide)) hG tk T.d__law_pick.g T.d__law_pick.k T.d__law_pick.b (by exact by exact da_cons (by exact de_var 0) (by exact da_cons (by exact de_tup (by exact by exact da_cons de_int (by exact da_cons de_int (by exact da_cons de_int (by exact da_cons de_int (by exact da_cons de_int (by exact da_cons de_int (by exact da_cons de_int (by exact da_cons de_int da_nil))))))))) da_nil))) da_nil)))) (by exact dss_cons (by exact ds_set 7 sc__law_any_machine.nd (by exact de_op op_sub ops_int0 (by exact de_var 7) (by exact de_var 9))) (by exact dss_cons (by exact ds_set 10 sc__law_any_machine.nd (by exact de_call (ok__law_pick T) (mono__law_pick P w base T s (hr.mono (by decide)) hG) (hr.mono (by decide)) hG tk T.d__law_pick.g T.d__law_pick.k T.d__law_pick.b (by exact by exact da_cons (by exact de_var 0) (by exact da_cons (by exact de_tup (by exact by exact da_cons (by exact de_neg de_int) (by exact da_cons de_int (by exact da_cons (by exact de_neg de_int) (by exact da_cons de_int (by exact da_cons (by exact de_neg de_int) (by exact da_cons (by exact de_neg (by exact de_var 9)) (by exact da_cons (by exact de_op op_sub ops_int0 de_int (by exact de_var 9)) (by exact da_cons de_int (by exact da_cons (by exact de_neg de_int) (by exact da_cons de_int (by exact da_cons (by exact de_neg de_int) (by exact da_cons (by exact de_neg de_int) (by exact da_cons de_int da_nil)))))))))))))) da_nil)))) (dss_one (by exact ds_append 6 (by exact de_tup (by exact by exact da_cons (by exact de_var 10) (by exact da_cons (by exact de_callTy call_tuple_of bui_tuple (by rfl) T.m_tuple boot_tuple (by exact by exact da_cons (by exact de_ofF (by exact df_comp (own := [("go", 11)]) (by rfl) sc__law_any_machine.nd (by exact di_range1 (by rfl) T.m_range (by exact de_op opr_add ops_add de_int (by exact de_var 9))) (show BlkOk ["deck", "most", "scheme", "s", "t", "digits", "table", "left", "i", "many", "low", "go"] (defScope s__law_any_machine) _ [("go", 11)] from ⟨rfl, by decide +kernel, by decide +kernel, by decide +kernel, by decide +kernel⟩) (fun _ _ _ _ _ => (by exact dg_name 11 sc__law_any_machine.nd)) (fun _ _ _ _ _ => dts_nil) (fun _ _ _ _ _ => (by exact de_call (ok__law_pick T) (mono__law_pick P w base T s (hr.mono (by decide)) hG) (hr.mono (by decide)) hG takesF T.d__law_pick.g T.d__law_pick.k T.d__law_pick.b (by exact by exact da_cons (by exact de_var 0) (by exact da_cons (by exact de_var 5) da_nil)))))) da_nil)) da_nil))))))))) (dss_one (by exact ds_ret (by exact de_tup (by exact by exact da_cons (by exact de_var 2) (by exact da_cons (by exact de_tup (by exact by exact da_cons (by exact de_var 4) (by exact da_cons (by exact de_var 3) (by exact da_cons (by exact de_call (ok__law_pick T) (mono__law_pick P w base T s (hr.mono (by decide)) hG) (hr.mono (by decide)) hG tk T.d__law_pick.g T.d__law_pick.k T.d__law_pick.b (by exact by exact da_cons (by exact de_var 0) (by exact da_cons (by exact de_tup (by exact by exact da_cons de_str (by exact da_cons de_str da_nil))) da_nil))) da_nil)))) (by exact da_cons (by exact de_callTy call_tuple_of bui_tuple (by rfl) T.m_tuple boot_tuple (by exact by exact da_cons (by exact de_var 6) da_nil)) da_nil))))))))))
theorem ok__law_any_machine (T : Facts K mg) : FnG P w K mg base 4 T.d__law_any_machine.a T.d__law_any_machine.fd ["deck", "most"] (spD K mg 2 S__law_any_machine) := fn_body T.d__law_any_machine.F sc__law_any_machine (der__law_any_machine T)
theorem mono__law_any_machine (P : Program) (w : World) (base : Heap) (T : Facts K mg) {A : Around} (s : Shared) (hr : Room 4 A) (hG : A.guards = some []) : MonoC S__law_any_machine := monoBody (der__law_any_machine (P := P) (w := w) (base := base) T .none A [] s (fun _ => none) (fun _ _ _ => False) ⟨false, 0, 0, ""⟩ (hr.deeper _) hG).mono
theorem sc_is_machine_value : FnScope ["thing", "scheme", "look", "table", "row"] ["thing"] (defScope s_is_machine_value) := ⟨rfl, rfl, rfl, by decide +kernel, rfl, by decide +kernel, by decide +kernel⟩
def t_is_machine_value : DTS :=
  (dSeq (dIf (dOr (dNot (dTest (dCall 2 S_is_tuple (dCons (dVar 0) (dCons (dC (.int 3)) dNil))))) (dOr (dNot (dTest (dCall 1 S_is_scheme_value (dCons (dOp (fOp itemOf) (dVar 0) (dC (.int 0))) dNil)))) (dNot (dTest (dCall 1 S_is_look_value (dCons (dOp (fOp itemOf) (dVar 0) (dC (.int 1))) dNil)))))) (dRet (dC (.bool false))) dNext)
  (dSeq (dAsgG (dVar 0) (gdTup 3 (gdCons (gdName 1) (gdCons (gdName 2) (gdCons (gdName 3) gdNil)))))
  (dSeq (dIf (dOr (dNot (dTest (dIsi (isiB "tuple") (dVar 3)))) (dOr (dTest (dOp fGt (dOp (fOp itemOf) (dVar 2) (dC (.int 1))) (dC (.int 60)))) (dTest (dOp (fEq true) (dBui (f1 lenD) (dCons (dVar 3) dNil)) (dCall 1 S_two (dCons (dOp (fOp itemOf) (dVar 2) (dC (.int 1))) dNil)))))) (dRet (dC (.bool false))) dNext)
  (dRet (dBui (f1 allOf) (dCons (dOfF (dFComp (dSide (dVar 3)) (gdName 4) dYes (dCall 2 S_is_row (dCons (dVar 1) (dCons (dVar 4) dNil))) [4])) dNil))))))
def S_is_machine_value : DL.Spec := bodyS ["thing", "scheme", "look", "table", "row"] 1 t_is_machine_value
theorem der_is_machine_value (T : Facts K mg) (cdv : Value) (A : Around) (outer : List PySem.Env) (s : Shared) (H : Hp) (E : XK) (dk : Dk) (hr : Room 4 (A.deeper (envOfC "is_machine_value" (defScope s_is_machine_value) s.heap.objs.size T.d_is_machine_value.a cdv))) (hG : (A.deeper (envOfC "is_machine_value" (defScope s_is_machine_value) s.heap.objs.size T.d_is_machine_value.a cdv)).guards = some []) :
    DSs (cxOf (L2.CX P w) P w K mg base ["thing", "scheme", "look", "table", "row"] "is_machine_value" (defScope s_is_machine_value) T.d_is_machine_value.a cdv A outer s H E) dk (WL E) (defBody s_is_machine_value) t_is_machine_value :=
  have tk := takes_of (E := E) (X := cxOf (L2.CX P w) P w K mg base ["thing", "scheme", "look", "table", "row"] "is_machine_value" (defScope s_is_machine_value) T.d_is_machine_value.a cdv A outer s H E) rfl rfl rfl rfl
  (by exact by exact dss_cons (by exact ds_if (by exact dt_w (by exact dw_or (by exact dt_not (by exact dt_val (by exact de_call (ok_is_tuple T) (mono_is_tuple P w base T s (hr.mono (by decide)) hG) (hr.mono (by decide)) hG tk T.d_is_tuple.g T.d_is_tuple.k T.d_is_tuple.b (by exact by exact da_cons (by exact de_var 0) (by exact da_cons de_int da_nil))))) (by exact dw_or (by exact dt_not (by exact dt_val (by exact de_call (ok_is_scheme_value T) (mono_is_scheme_value P w base T s (hr.mono (by decide)) hG) (hr.mono (by decide)) hG tk T.d_is_scheme_value.g T.d_is_scheme_value.k T.d_is_scheme_value.b (by exact by exact da_cons (by exact de_ix (by exact de_var 0) de_int) da_nil)))) (dw_or1 (by exact dt_not (by exact dt_val (by exact de_call (ok_is_look_value T) (mono_is_look_value P w base T s (hr.mono (by decide)) hG) (hr.mono (by decide)) hG tk T.d_is_look_value.g T.d_is_look_value.k T.d_is_look_value.b (by exact by exact da_cons (by exact de_ix (by exact de_var 0) de_int) da_nil)))))))) (by exact dss_one (by exact ds_ret de_bl)) dss_nil) (by exact dss_cons (by exact ds_asg (vs := [1, 2, 3]) (by exact de_var 0) (by exact dg_tup (by rfl) (by exact dgs_cons (by exact dg_name 1 sc_is_machine_value.nd) (by exact dgs_cons (by exact dg_name 2 sc_is_machine_value.nd) (by exact dgs_cons (by exact dg_name 3 sc_is_machine_value.nd) dgs_nil))))) (by exact dss_cons (by exact ds_if (by exact dt_w (by exact dw_or (by exact dt_not (by exact dt_val (by exact de_isi (by rfl) T.m_isinstance (by rfl) T.m_tuple boot_tuple (by decide) (by exact de_var 3)))) (by exact dw_or (by exact dt_cmp op_gt ops_intB (by exact de_ix (by exact de_var 2) de_int) de_int) (dw_or1 (by exact dt_cmp (op_neD hr.units) ops_ne (by exact de_callB (call_len.or call_lenK) bui_lenD (by rfl) T.m_len PySem.boot_len (by exact by exact da_cons (by exact de_var 3) da_nil)) (by exact de_call (ok_two T) (mono_two P w base T s (hr.mono (by decide)) hG) (hr.mono (by decide)) hG tk T.d_two.g T.d_two.k T.d_two.b (by exact by exact da_cons (by exact de_ix (by exact de_var 2) de_int) da_nil))))))) (by exact dss_one (by exact ds_ret de_bl)) dss_nil) (dss_one (by exact ds_ret (by exact de_callB (cr_all (by rfl)) bui_all (by rfl) T.m_all (by decide +kernel) (by exact by exact da_cons (by exact de_ofF (by exact df_comp (own := [("row", 4)]) (by rfl) sc_is_machine_value.nd (by exact di_side (by exact de_var 3)) (show BlkOk ["thing", "scheme", "look", "table", "row"] (defScope s_is_machine_value) _ [("row", 4)] from ⟨rfl, by decide +kernel, by decide +kernel, by decide +kernel, by decide +kernel⟩) (fun _ _ _ _ _ => (by exact dg_name 4 sc_is_machine_value.nd)) (fun _ _ _ _ _ => dts_nil) (fun _ _ _ _ _ => (by exact de_call (ok_is_row T) (mono_is_row P w base T s (hr.mono (by decide)) hG) (hr.mono (by decide)) hG takesF T.d_is_row.g T.d_is_row.k T.d_is_row.b (by exact by exact da_cons (by exact de_var 1) (by exact da_cons (by exact de_var 4) da_nil)))))) da_nil)))))))
theorem ok_is_machine_value (T : Facts K mg) : FnG P w K mg base 5 T.d_is_machine_value.a T.d_is_machine_value.fd ["thing"] (spD K mg 1 S_is_machine_value) := fn_body T.d_is_machine_value.F sc_is_machine_value (der_is_machine_value T)
theorem mono_is_machine_value (P : Program) (w : World) (base : Heap) (T : Facts K mg) {A : Around} (s : Shared) (hr : Room 5 A) (hG : A.guards = some []) : MonoC S_is_machine_value := monoBody (der_is_machine_value (P := P) (w := w) (base := base) T .none A [] s (fun _ => none) (fun _ _ _ => False) ⟨false, 0, 0, ""⟩ (hr.deeper _) hG).mono
theorem sc_need_machine : FnScope ["machine"] ["machine"] (defScope s_need_machine) := ⟨rfl, rfl, rfl, by decide +kernel, rfl, by decide +kernel, by decide +kernel⟩
def t_need_machine : DTS :=
  (dIf (dNot (dTest (dCall 1 S_is_machine_value (dCons (dVar 0) dNil)))) dNever dNext)
def S_need_machine : DL.Spec := bodyS ["machine"] 1 t_need_machine
theorem der_need_machine (T : Facts K mg) (cdv : Value) (A : Around) (outer : List PySem.Env) (s : Shared) (H : Hp) (E : XK) (dk : Dk) (hr : Room 5 (A.deeper (envOfC "need_machine" (defScope s_need_machine) s.heap.objs.size T.d_need_machine.a cdv))) (hG : (A.deeper (envOfC "need_machine" (defScope s_need_machine) s.heap.objs.size T.d_need_machine.a cdv)).guards = some []) :
    DSs (cxOf (L2.CX P w) P w K mg base ["machine"] "need_machine" (defScope s_need_machine) T.d_need_machine.a cdv A outer s H E) dk (WL E) (defBody s_need_machine) t_need_machine :=
  have tk := takes_of (E := E) (X := cxOf (L2.CX P w) P w K mg base ["machine"] "need_machine" (defScope s_need_machine) T.d_need_machine.a cdv A outer s H E) rfl rfl rfl rfl
  (by exact dss_one (by exact ds_if (by exact dt_not (by exact dt_val (by exact de_call (ok_is_machine_value T) (mono_is_machine_value P w base T s (hr.mono (by decide)) hG) (hr.mono (by decide)) hG tk T.d_is_machine_value.g T.d_is_machine_value.k T.d_is_machine_value.b (by exact by exact da_cons (by exact de_var 0) da_nil)))) (by exact dss_one ds_never) dss_nil))
theorem ok_need_machine (T : Facts K mg) : FnG P w K mg base 6 T.d_need_machine.a T.d_need_machine.fd ["machine"] (spD K mg 1 S_need_machine) := fn_body T.d_need_machine.F sc_need_machine (der_need_machine T)
theorem mono_need_machine (P : Program) (w : World) (base : Heap) (T : Facts K mg) {A : Around} (s : Shared) (hr : Room 6 A) (hG : A.guards = some []) : MonoC S_need_machine := monoBody (der_need_machine (P := P) (w := w) (base := base) T .none A [] s (fun _ => none) (fun _ _ _ => False) ⟨false, 0, 0, ""⟩ (hr.deeper _) hG).mono
theorem sc_need_logic : FnScope ["machine", "logic"] ["machine", "logic"] (defScope s_need_logic) := ⟨rfl, rfl, rfl, by decide +kernel, rfl, by decide +kernel, by decide +kernel⟩
def t_need_logic : DTS :=
  (dSeq (dDrop (dCall 1 S_need_machine (dCons (dVar 0) dNil)))
  (dIf (dNot (dTest (dCall 2 S_is_logic_value (dCons (dVar 0) (dCons (dVar 1) dNil))))) dNever dNext))
def S_need_logic : DL.Spec := bodyS ["machine", "logic"] 2 t_need_logic
theorem der_need_logic (T : Facts K mg) (cdv : Value) (A : Around) (outer : List PySem.Env) (s : Shared) (H : Hp) (E : XK) (dk : Dk) (hr : Room 6 (A.deeper (envOfC "need_logic" (defScope s_need_logic) s.heap.objs.size T.d_need_logic.a cdv))) (hG : (A.deeper (envOfC "need_logic" (defScope s_need_logic) s.heap.objs.size T.d_need_logic.a cdv)).guards = some []) :
    DSs (cxOf (L2.CX P w) P w K mg base ["machine", "logic"] "need_logic" (defScope s_need_logic) T.d_need_logic.a cdv A outer s H E) dk (WL E) (defBody s_need_logic) t_need_logic :=
  have tk := takes_of (E := E) (X := cxOf (L2.CX P w) P w K mg base ["machine", "logic"] "need_logic" (defScope s_need_logic) T.d_need_logic.a cdv A outer s H E) rfl rfl rfl rfl
  (by exact by exact dss_cons (by exact ds_expr (by exact de_call (ok_need_machine T) (mono_need_machine P w base T s (hr.mono (by decide)) hG) (hr.mono (by decide)) hG tk T.d_need_machine.g T.d_need_machine.k T.d_need_machine.b (by exact by exact da_cons (by exact de_var 0) da_nil))) (dss_one (by exact ds_if (by exact dt_not (by exact dt_val (by exact de_call (ok_is_logic_value T) (mono_is_logic_value P w base T s (hr.mono (by decide)) hG) (hr.mono (by decide)) hG tk T.d_is_logic_value.g T.d_is_logic_value.k T.d_is_logic_value.b (by exact by exact da_cons (by exact de_var 0) (by exact da_cons (by exact de_var 1) da_nil))))) (by exact dss_one ds_never) dss_nil)))
theorem ok_need_logic (T : Facts K mg) : FnG P w K mg base 7 T.d_need_logic.a T.d_need_logic.fd ["machine", "logic"] (spD K mg 2 S_need_logic) := fn_body T.d_need_logic.F sc_need_logic (der_need_logic T)
theorem mono_need_logic (P : Program) (w : World) (base : Heap) (T : Facts K mg) {A : Around} (s : Shared) (hr : Room 7 A) (hG : A.guards = some []) : MonoC S_need_logic := monoBody (der_need_logic (P := P) (w := w) (base := base) T .none A [] s (fun _ => none) (fun _ _ _ => False) ⟨false, 0, 0, ""⟩ (hr.deeper _) hG).mono
theorem sc_output : FnScope ["machine", "logic", "cell"] ["machine", "logic", "cell"] (defScope s_output) := ⟨rfl, rfl, rfl, by decide +kernel, rfl, by decide +kernel, by decide +kernel⟩
def t_output : DTS :=
  (dSeq (dDrop (dCall 2 S_need_logic (dCons (dVar 0) (dCons (dVar 1) dNil))))
  (dSeq (dIf (dNot (dTest (dCall 2 S_is_cell (dCons (dOp (fOp itemOf) (dVar 0) (dC (.int 1))) (dCons (dVar 2) dNil))))) dNever dNext)
  (dRet (dCall 3 S_output_of (dCons (dVar 0) (dCons (dVar 1) (dCons (dVar 2) dNil)))))))
def S_output : DL.Spec := bodyS ["machine", "logic", "cell"] 3 t_output
theorem der_output (T : Facts K mg) (cdv : Value) (A : Around) (outer : List PySem.Env) (s : Shared) (H : Hp) (E : XK) (dk : Dk) (hr : Room 7 (A.deeper (envOfC "output" (defScope s_output) s.heap.objs.size T.d_output.a cdv))) (hG : (A.deeper (envOfC "output" (defScope s_output) s.heap.objs.size T.d_output.a cdv)).guards = some []) :
    DSs (cxOf (L2.CX P w) P w K mg base ["machine", "logic", "cell"] "output" (defScope s_output) T.d_output.a cdv A outer s H E) dk (WL E) (defBody s_output) t_output :=
  have tk := takes_of (E := E) (X := cxOf (L2.CX P w) P w K mg base ["machine", "logic", "cell"] "output" (defScope s_output) T.d_output.a cdv A outer s H E) rfl rfl rfl rfl
  (by exact by exact dss_cons (by exact ds_expr (by exact de_call (ok_need_logic T) (mono_need_logic P w base T s (hr.mono (by decide)) hG) (hr.mono (by decide)) hG tk T.d_need_logic.g T.d_need_logic.k T.d_need_logic.b (by exact by exact da_cons (by exact de_var 0) (by exact da_cons (by exact de_var 1) da_nil)))) (by exact dss_cons (by exact ds_if (by exact dt_not (by exact dt_val (by exact de_call (ok_is_cell T) (mono_is_cell P w base T s (hr.mono (by decide)) hG) (hr.mono (by decide)) hG tk T.d_is_cell.g T.d_is_cell.k T.d_is_cell.b (by exact by exact da_cons (by exact de_ix (by exact de_var 0) de_int) (by exact da_cons (by exact de_var 2) da_nil))))) (by exact dss_one ds_never) dss_nil) (dss_one (by exact ds_ret (by exact de_call (ok_output_of T) (mono_output_of P w base T s (hr.mono (by decide)) hG) (hr.mono (by decide)) hG tk T.d_output_of.g T.d_output_of.k T.d_output_of.b (by exact by exact da_cons (by exact de_var 0) (by exact da_cons (by exact de_var 1) (by exact da_cons (by exact de_var 2) da_nil))))))))
theorem ok_output (T : Facts K mg) : FnG P w K mg base 8 T.d_output.a T.d_output.fd ["machine", "logic", "cell"] (spD K mg 3 S_output) := fn_body T.d_output.F sc_output (der_output T)
theorem mono_output (P : Program) (w : World) (base : Heap) (T : Facts K mg) {A : Around} (s : Shared) (hr : Room 8 A) (hG : A.guards = some []) : MonoC S_output := monoBody (der_output (P := P) (w := w) (base := base) T .none A [] s (fun _ => none) (fun _ _ _ => False) ⟨false, 0, 0, ""⟩ (hr.deeper _) hG).mono
theorem sc_law : FnScope ["script", "deck", "turn", "machine", "b", "terms", "other", "cell", "due"] ["script"] (defScope s_law) := ⟨rfl, rfl, rfl, by decide +kernel, rfl, by decide +kernel, by decide +kernel⟩
def t_law : DTS :=
  (dSeq (dFor (dRange1 (dC (.int 4))) (gdName 2) (dSeq (dAsg 3 (dCall 2 S__law_any_machine (dCons (dVar 1) (dCons (dC (.int 30)) dNil))))
  (dSeq (dAsgG (dCall 2 S__law_any_logic (dCons (dVar 1) (dCons (dVar 3) dNil))) (gdTup 2 (gdCons (gdName 4) (gdCons (gdName 5) gdNil))))
  (dSeq (dAsg 6 (dTup (dCons (dVar 4) (dCons (dBui (f1 tupOf) (dCons (dOp fAdd (dCall 2 S__law_mixed (dCons (dVar 1) (dCons (dBui (f1 lstD) (dCons (dVar 5) dNil)) dNil))) (dOp fMul (dBui (f1 lstD) (dCons (dVar 5) dNil)) (dC (.int 2)))) dNil)) dNil))))
  (dFor (dSide (dCall 3 S__law_cells (dCons (dVar 1) (dCons (dVar 3) (dCons (dVar 4) dNil))))) (gdName 7) (dSeq (dAsg 8 (dCall 3 S__law_due (dCons (dVar 3) (dCons (dTup (dCons (dVar 4) (dCons (dVar 5) dNil))) (dCons (dVar 7) dNil)))))
  (dSeq (dIf (dNot (dTest (dCall 2 S__law_same (dCons (dCall 3 S_output (dCons (dVar 3) (dCons (dTup (dCons (dVar 4) (dCons (dVar 5) dNil))) (dCons (dVar 7) dNil)))) (dCons (dVar 8) dNil))))) (dRet (dC (.bool false))) dNext)
  (dSeq (dIf (dAnd (dTest (dOp (fEq false) (dVar 2) (dC (.int 0)))) (dNot (dTest (dCall 2 S__law_same (dCons (dCallK 3 3 S_output [2, 1, 0] (dCons (dVar 7) (dCons (dVar 6) (dCons (dVar 3) dNil)))) (dCons (dVar 8) dNil)))))) (dRet (dC (.bool false))) dNext)
  (dIf (dAnd (dTest (dOp (fEq false) (dVar 2) (dC (.int 1)))) (dNot (dTest (dCall 2 S__law_same (dCons (dCall 3 S_output (dCons (dVar 3) (dCons (dTup (dCons (dVar 4) (dCons (dVar 5) dNil))) (dCons (dTup (dCons (dOp (fOp itemOf) (dVar 7) (dC (.int 0))) (dCons (dOp fAdd (dOp (fOp itemOf) (dVar 7) (dC (.int 1))) (dOp fShl (dC (.int 1)) (dVar 4))) dNil))) dNil)))) (dCons (dVar 8) dNil)))))) (dRet (dC (.bool false))) dNext)))))))))
  (dRet (dC (.bool true))))
theorem ok_law (T : Facts K mg) (pure : t_law { nx := fun _ => False, rt := fun v _ => v = .d (.bool true), bk := fun _ => False, ct := fun _ => False, ex := fun _ _ _ => False } ((List.replicate 9 .un).set 1 (.val (.deck "left")))) : FnG P w K mg base 9 T.d_law.a T.d_law.fd ["script"] (spLaw K) := by
  refine law_fn (i := 1) (key := "left") (t := t_law) T.d_law.F sc_law (fun cdv A outer s H E hr hG => ⟨_, _, rfl, ?_, fun dk => ?_⟩) pure
  · exact ps_set (i := 1) sc_law.nd rfl (by first | exact .inl rfl | exact .inr rfl) (pe_callG (ok__law_deck T) (hr.mono (by decide)) hG (takes_of rfl rfl rfl rfl) T.d__law_deck.g T.d__law_deck.k T.d__law_deck.b (pa_cons (pv 0) pa_nil))
  · have tk := takes_of (E := E) (X := cxOf (L2.CX P w) P w K mg base ["script", "deck", "turn", "machine", "b", "terms", "other", "cell", "due"] "law" (defScope s_law) T.d_law.a cdv A outer s H E) rfl rfl rfl rfl
    exact (by exact by exact dss_cons (by exact ds_for (vs := [2]) (passes_of (by rfl)) (by rfl) (by exact di_range1 (by rfl) T.m_range de_int) (by exact dg_name 2 sc_law.nd) (by exact by exact dss_cons (by exact ds_set 3 sc_law.nd (by exact de_call (ok__law_any_machine T) (mono__law_any_machine P w base T s (hr.mono (by decide)) hG) (hr.mono (by decide)) hG tk T.d__law_any_machine.g T.d__law_any_machine.k T.d__law_any_machine.b (by exact by exact da_cons (by exact de_var 1) (by exact da_cons de_int da_nil)))) (by exact dss_cons (by exact ds_asg (vs := [4, 5]) (by exact de_call (ok__law_any_logic T) (mono__law_any_logic P w base T s (hr.mono (by decide)) hG) (hr.mono (by decide)) hG tk T.d__law_any_logic.g T.d__law_any_logic.k T.d__law_any_logic.b (by exact by exact da_cons (by exact de_var 1) (by exact da_cons (by exact de_var 3) da_nil))) (by exact dg_tup (by rfl) (by exact dgs_cons (by exact dg_name 4 sc_law.nd) (by exact dgs_cons (by exact dg_name 5 sc_law.nd) dgs_nil)))) (by exact dss_cons (by exact ds_set 6 sc_law.nd (by exact de_tup (by exact by exact da_cons (by exact de_var 4) (by exact da_cons (by exact de_callTy call_tuple_of bui_tuple (by rfl) T.m_tuple boot_tuple (by exact by exact da_cons (by exact de_op opr_add ops_add (by exact de_call (ok__law_mixed T) (mono__law_mixed P w base T s (hr.mono (by decide)) hG) (hr.mono (by decide)) hG tk T.d__law_mixed.g T.d__law_mixed.k T.d__law_mixed.b (by exact by exact da_cons (by exact de_var 1) (by exact da_cons (by exact de_callTy (call_list_of.or (call_list_dK (by rfl))) bui_listD (by rfl) T.m_list boot_list (by exact by exact da_cons (by exact de_var 5) da_nil)) da_nil))) (by exact de_op opr_mul2 ops_mul (by exact de_callTy (call_list_of.or (call_list_dK (by rfl))) bui_listD (by rfl) T.m_list boot_list (by exact by exact da_cons (by exact de_var 5) da_nil)) de_int)) da_nil)) da_nil)))) (dss_one (by exact ds_for (vs := [7]) (passes_of (by rfl)) (by rfl) (by exact di_side (by exact de_call (ok__law_cells T) (mono__law_cells P w base T s (hr.mono (by decide)) hG) (hr.mono (by decide)) hG tk T.d__law_cells.g T.d__law_cells.k T.d__law_cells.b (by exact by exact da_cons (by exact de_var 1) (by exact da_cons (by exact de_var 3) (by exact da_cons (by exact de_var 4) da_nil))))) (by exact dg_name 7 sc_law.nd) (by exact by exact dss_cons (by exact ds_set 8 sc_law.nd (by exact de_call (ok__law_due T) (mono__law_due P w base T s (hr.mono (by decide)) hG) (hr.mono (by decide)) hG tk T.d__law_due.g T.d__law_due.k T.d__law_due.b (by exact by exact da_cons (by exact de_var 3) (by exact da_cons (by exact de_tup (by exact by exact da_cons (by exact de_var 4) (by exact da_cons (by exact de_var 5) da_nil))) (by exact da_cons (by exact de_var 7) da_nil))))) (by exact dss_cons (by exact ds_if (by exact dt_not (by exact dt_val (by exact de_call (ok__law_same T) (mono__law_same P w base T s (hr.mono (by decide)) hG) (hr.mono (by decide)) hG tk T.d__law_same.g T.d__law_same.k T.d__law_same.b (by exact by exact da_cons (by exact de_call (ok_output T) (mono_output P w base T s (hr.mono (by decide)) hG) (hr.mono (by decide)) hG tk T.d_output.g T.d_output.k T.d_output.b (by exact by exact da_cons (by exact de_var 3) (by exact da_cons (by exact de_tup (by exact by exact da_cons (by exact de_var 4) (by exact da_cons (by exact de_var 5) da_nil))) (by exact da_cons (by exact de_var 7) da_nil)))) (by exact da_cons (by exact de_var 8) da_nil))))) (by exact dss_one (by exact ds_ret de_bl)) dss_nil) (by exact dss_cons (by exact ds_if (by exact dt_w (by exact dw_and (by exact dt_cmp (op_eqD hr.units) ops_eq (by exact de_var 2) de_int) (dw_and1 (by exact dt_not (by exact dt_val (by exact de_call (ok__law_same T) (mono__law_same P w base T s (hr.mono (by decide)) hG) (hr.mono (by decide)) hG tk T.d__law_same.g T.d__law_same.k T.d__law_same.b (by exact by exact da_cons (by exact de_callK (ks := ["cell", "logic", "machine"]) (ok_output T) (mono_output P w base T s (hr.mono (by decide)) hG) (hr.mono (by decide)) hG tk T.d_output.g T.d_output.k T.kw_output_cell_logic_machine (by exact dk_cons (by exact de_var 7) (by exact dk_cons (by exact de_var 6) (by exact dk_cons (by exact de_var 3) dk_nil)))) (by exact da_cons (by exact de_var 8) da_nil)))))))) (by exact dss_one (by exact ds_ret de_bl)) dss_nil) (dss_one (by exact ds_if (by exact dt_w (by exact dw_and (by exact dt_cmp (op_eqD hr.units) ops_eq (by exact de_var 2) de_int) (dw_and1 (by exact dt_not (by exact dt_val (by exact de_call (ok__law_same T) (mono__law_same P w base T s (hr.mono (by decide)) hG) (hr.mono (by decide)) hG tk T.d__law_same.g T.d__law_same.k T.d__law_same.b (by exact by exact da_cons (by exact de_call (ok_output T) (mono_output P w base T s (hr.mono (by decide)) hG) (hr.mono (by decide)) hG tk T.d_output.g T.d_output.k T.d_output.b (by exact by exact da_cons (by exact de_var 3) (by exact da_cons (by exact de_tup (by exact by exact da_cons (by exact de_var 4) (by exact da_cons (by exact de_var 5) da_nil))) (by exact da_cons (by exact de_tup (by exact by exact da_cons (by exact de_ix (by exact de_var 7) de_int) (by exact da_cons (by exact de_op opr_add ops_add (by exact de_ix (by exact de_var 7) de_int) (by exact de_op opr_shl ops_int de_int (by exact de_var 4))) da_nil))) da_nil)))) (by exact da_cons (by exact de_var 8) da_nil)))))))) (by exact dss_one (by exact ds_ret de_bl)) dss_nil))))))))))) (dss_one (by exact ds_ret de_bl)))
end
end Q47
set_option maxHeartbeats 1000000
namespace Q47
open PySem PySem.Spec
open PyProof.Rows hiding St
open L2 DL
section
variable {Q : Val → Prop} {E : Str → PyData → Prop}
/-! ### looks -/
def isI : PyData → Bool
  | .int _ => true
  | _ => false
def isTup (n : Int) : PyData → Bool
  | .tuple xs => decide ((xs.length : Int) = n)
  | _ => false
theorem two_ok {n : Int} (h0 : 0 ≤ n) (h1 : n < 1000000) (q : Q (.d (.int (2 ^ n.toNat)))) : S_two [.d (.int n)] Q E :=
  ⟨rfl, ⟨h0, by have : (1 : Int).natAbs.log2 = 0 := by decide
                rw [this]; omega⟩, by show Q (.d (.int (1 * 2 ^ n.toNat))); rw [Int.one_mul]; exact q⟩
theorem isint_ok {x : PyData} (q : Q (.d (.bool (isI x)))) : S_is_integer [.d x] Q E := by
  refine ⟨rfl, ?_⟩
  cases x <;> exact q
theorem istup_ok {x : PyData} {n : Int} (q : Q (.d (.bool (isTup n x)))) : S_is_tuple [.d x, .d (.int n)] Q E := by
  refine ⟨rfl, ?_⟩
  cases x with
  | tuple xs => exact ⟨rfl, rfl, q⟩
  | _ => exact q
theorem isfrom_ok {i n : Int} (q : Q (.d (.bool (decide (n ≤ i))))) : S_is_from [.d (.int i), .d (.int n)] Q E :=
  ⟨rfl, rfl, isint_ok ⟨trivial, q⟩⟩
theorem isdigit_ok {k sg i : Int} (q : Q (.d (.bool (decide (-sg ≤ i) && decide (i ≤ sg))))) : S_is_digit [.d (.tuple [.int k, .int sg]), .d (.int i)] Q E := by
  refine ⟨rfl, rfl, isint_ok ⟨trivial, trivial, if_dec (fun h => ⟨trivial, ?_⟩) fun h => ?_⟩⟩
  · rw [decide_eq_true (show -sg ≤ i by omega)] at q
    exact q
  · rw [decide_eq_false (show ¬ -sg ≤ i by omega)] at q
    exact q
structure SchOk (k sg : Int) : Prop where
  k1 : 1 ≤ k
  k3 : k ≤ 3
  lo : 2 ^ (k - 1).toNat ≤ sg
  hi : sg < 2 ^ k.toNat
theorem isscheme_ok {k sg : Int} (h : SchOk k sg) (q : Q (.d (.bool true))) : S_is_scheme_value [.d (.tuple [.int k, .int sg])] Q E := by
  have := h.k1
  have := h.k3
  refine ⟨rfl, rfl, istup_ok ⟨rfl, isint_ok ⟨rfl, isint_ok ⟨trivial, if_dec (fun _ => ⟨trivial, ?_⟩) fun e => absurd h.k1 e⟩⟩⟩⟩
  refine if_f (by rw [decide_eq_true h.k3]; rfl) ⟨trivial, rfl, two_ok (by omega) (by omega) ⟨trivial, if_dec (fun _ => ⟨rfl, two_ok (by omega) (by omega) ⟨trivial, ?_⟩⟩) fun e => absurd h.lo e⟩⟩
  show Q (.d (.bool (decide (sg < 2 ^ k.toNat))))
  rw [decide_eq_true h.hi]
  exact q
/-! ### machines -/
structure Mac where
  k : Int
  sg : Int
  t : Int
  s : Int
  kind : Str
  rows : List (Int × List Int)
def encRow (r : Int × List Int) : PyData := .tuple [.int r.1, .tuple (r.2.map .int)]
def Mac.sch (m : Mac) : PyData := .tuple [.int m.k, .int m.sg]
def Mac.look (m : Mac) : PyData := .tuple [.int m.t, .int m.s, .str m.kind]
def Mac.enc (m : Mac) : PyData := .tuple [m.sch, m.look, .tuple (m.rows.map encRow)]
structure RowOk (sg : Int) (r : Int × List Int) : Prop where
  ne : r.2 ≠ []
  dg : ∀ d ∈ r.2, -sg ≤ d ∧ d ≤ sg
structure Mac.Ok (m : Mac) : Prop where
  sch : SchOk m.k m.sg
  t0 : 0 ≤ m.t
  s0 : 0 ≤ m.s
  s60 : m.s ≤ 60
  kind : m.kind = "one" ∨ m.kind = "pair"
  len : (m.rows.length : Int) = 2 ^ m.s.toNat
  row : ∀ r ∈ m.rows, RowOk m.sg r
theorem bools_map {α : Type} (p : α → Bool) : ∀ l : List α, boolsOf (l.map fun x => PyData.bool (p x)) = some (l.map p)
  | [] => rfl
  | x :: r => by
    rw [List.map_cons]
    show (boolsOf _).map (p x :: ·) = _
    rw [bools_map p r]
    rfl
theorem all_true {l : List PyData} (h : ∀ x ∈ l, x = .bool true) : allOf (.list l) = some (.bool true) := by
  have e : ∀ l : List PyData, (∀ x ∈ l, x = .bool true) → ∃ bs, boolsOf l = some bs ∧ bs.all id = true := fun l => by
    induction l with
    | nil => intro _; exact ⟨[], rfl, rfl⟩
    | cons x r ih =>
      intro h
      obtain ⟨bs, e1, e2⟩ := ih fun y hy => h y (List.mem_cons_of_mem _ hy)
      have := h x List.mem_cons_self
      subst this
      refine ⟨true :: bs, ?_, by rw [List.all_cons, e2]; rfl⟩
      show (boolsOf r).map (true :: ·) = _
      rw [e1]
      rfl
  obtain ⟨bs, e1, e2⟩ := e l h
  unfold allOf
  simp only [e1]
  rw [← e2]
  rfl
/-- all([p(x) for x in l]), p true of each -/
theorem allc_ok {turn : PyData → (Option PyData → Prop) → Prop} {xs : List PyData} {R : PyData → Prop} (hs : ∀ (x : PyData) (k : Option PyData → Prop), x ∈ xs → k (some (.bool true)) → turn x k) (q : R (.bool true)) :
    compL turn xs [] fun ys => match allOf (.list ys) with
      | some c => R c
      | none => False := by
  refine comp_map (fun _ => .bool true) hs ?_
  rw [all_true fun x hx => by obtain ⟨_, _, rfl⟩ := List.mem_map.mp hx; rfl]
  exact q
theorem f1_of {f : PyData → Option PyData} {a c : PyData} {K : Val → Prop} (h : f a = some c) (q : K (.d c)) : f1 f [.d a] K := by
  show match f a with
    | some c => K (.d c)
    | none => False
  rw [h]
  exact q
theorem all_yes {α : Type} (xs : List α) : allOf (.list (xs.map fun _ => PyData.bool true)) = some (.bool true) := all_true fun x hx => by obtain ⟨_, _, rfl⟩ := List.mem_map.mp hx; rfl
theorem allk_ok {turn : PyData → (Option PyData → Prop) → Prop} {xs : List PyData} {K : Val → Prop} (hs : ∀ (x : PyData) (k : Option PyData → Prop), x ∈ xs → k (some (.bool true)) → turn x k) (q : K (.d (.bool true))) :
    compL turn xs [] fun ys => f1 allOf [.d (.list ys)] K := allc_ok (R := fun c => K (.d c)) hs q
theorem isstring_ok {k sg : Int} {l : List Int} (h : ∀ d ∈ l, -sg ≤ d ∧ d ≤ sg) (q : Q (.d (.bool true))) : S_is_string [.d (.tuple [.int k, .int sg]), .d (.tuple (l.map .int))] Q E := by
  refine ⟨rfl, ?_⟩
  refine allc_ok (R := fun c => Q (.d c)) (fun x kk hx hk => ?_) q
  obtain ⟨d, hd, rfl⟩ := List.mem_map.mp hx
  refine ⟨rfl, isdigit_ok ?_⟩
  rw [decide_eq_true (h d hd).1, decide_eq_true (h d hd).2]
  exact hk
theorem isword_ok {x : Str} {ws : List Str} (q : Q (.d (.bool (inSeq (.str x) (ws.map .str))))) : S_is_word_of [.d (.str x), .d (.tuple (ws.map .str))] Q E := by
  refine ⟨rfl, rfl, ?_, q⟩
  rw [List.all_map]
  exact List.all_eq_true.mpr fun _ _ => rfl
theorem islook_ok {t s : Int} {kind : Str} (h1 : 0 ≤ t) (h2 : 0 ≤ s) (h3 : kind = "one" ∨ kind = "pair") (q : Q (.d (.bool true))) : S_is_look_value [.d (.tuple [.int t, .int s, .str kind])] Q E := by
  refine ⟨rfl, rfl, istup_ok ⟨rfl, isfrom_ok ?_⟩⟩
  rw [decide_eq_true h1]
  refine ⟨rfl, isfrom_ok ?_⟩
  rw [decide_eq_true h2]
  refine ⟨rfl, isword_ok (ws := ["one", "pair"]) ?_⟩
  have : inSeq (.str kind) (([("one" : Str), "pair"]).map PyData.str) = true := by
    rcases h3 with rfl | rfl <;> decide +kernel
  rw [this]
  exact q
theorem isrow_ok {k sg : Int} {r : Int × List Int} (h : RowOk sg r) (q : Q (.d (.bool true))) : S_is_row [.d (.tuple [.int k, .int sg]), .d (encRow r)] Q E := by
  refine ⟨rfl, rfl, istup_ok ⟨rfl, isint_ok ⟨rfl, isstring_ok h.dg ⟨Nat.zero_le _, (shaped_ints _).1, (shaped_ints []).1, ?_⟩⟩⟩⟩
  have e : PyData.eqv (.tuple (r.2.map .int)) (.tuple []) = false := by
    cases e : r.2 with
    | nil => exact absurd e h.ne
    | cons d l => rfl
  show Q (.d (.bool (!PyData.eqv (.tuple (r.2.map .int)) (.tuple []))))
  rw [e]
  exact q
/-! ### a machine -/
theorem ismachine_ok {m : Mac} (h : m.Ok) (q : Q (.d (.bool true))) : S_is_machine_value [.d m.enc] Q E := by
  have := h.s0
  have := h.s60
  refine ⟨rfl, rfl, istup_ok ⟨rfl, isscheme_ok h.sch ⟨rfl, islook_ok h.t0 h.s0 h.kind ⟨rfl, ?_⟩⟩⟩⟩
  refine ⟨trivial, if_dec (fun e => absurd e (by omega)) fun _ => ⟨rfl, two_ok (by omega) (by omega) ⟨rfl, rfl, ?_⟩⟩⟩
  have e : PyData.eqv (.int ((m.rows.map encRow).length : Int)) (.int (2 ^ m.s.toNat)) = true := by
    rw [List.length_map, h.len]
    exact decide_eq_true rfl
  show if (!PyData.eqv (.int ((m.rows.map encRow).length : Int)) (.int (2 ^ m.s.toNat))) = true then _ else _
  rw [e]
  refine allc_ok (R := fun c => Q (.d c)) (fun x kk hx hk => ?_) q
  obtain ⟨r, hr, rfl⟩ := List.mem_map.mp hx
  exact ⟨rfl, isrow_ok (h.row r hr) hk⟩
theorem needm_ok {m : Mac} (h : m.Ok) (q : Q (.d .none)) : S_need_machine [.d m.enc] Q E := ⟨rfl, rfl, ismachine_ok h q⟩
end
end Q47
set_option maxHeartbeats 1000000
namespace Q47
open PySem PySem.Spec
open PyProof.Rows hiding St
open L2 DL
section
variable {Q : Val → Prop} {E : Str → PyData → Prop}
/-! ### logic -/
def encT (r : Str × Int) : PyData := .tuple [.str r.1, .int r.2]
structure TermOk (sg n : Int) (r : Str × Int) : Prop where
  len : (r.1.length : Int) = n
  sn : ∀ c ∈ r.1.cps.toList, c = 48 ∨ c = 49 ∨ c = 45
  dg : -sg ≤ r.2 ∧ r.2 ≤ sg
structure LogOk (m : Mac) (b : Int) (ts : List (Str × Int)) : Prop where
  b1 : 1 ≤ b
  bm : b ≤ 10000
  tm : ∀ r ∈ ts, TermOk m.sg (b + m.s) r
def encL (b : Int) (ts : List (Str × Int)) : PyData := .tuple [.int b, .tuple (ts.map encT)]
theorem in_signs {c : Nat} (h : c = 48 ∨ c = 49 ∨ c = 45) : inStr ⟨#[c]⟩ "01-" = true := by
  rcases h with rfl | rfl | rfl <;> decide +kernel
theorem isterm_ok {k sg n : Int} {r : Str × Int} (h : TermOk sg n r) (q : Q (.d (.bool true))) : S_is_term [.d (.tuple [.int k, .int sg]), .d (.int n), .d (encT r)] Q E := by
  refine ⟨rfl, rfl, istup_ok ⟨rfl, rfl, ?_⟩⟩
  have e : PyData.eqv (.int (r.1.length : Int)) (.int n) = true := decide_eq_true h.len
  show if (!PyData.eqv (.int (r.1.length : Int)) (.int n)) = true then _ else _
  rw [e]
  refine if_f rfl ?_
  refine (show compL _ _ [] _ from ?_)
  refine comp_map (fun _ => .bool true) (fun x kk hx hk => ?_) ?_
  · obtain ⟨c, hc, rfl⟩ := List.mem_map.mp hx
    show kk (some (.bool (inStr ⟨#[c]⟩ "01-")))
    rw [in_signs (h.sn c hc)]
    exact hk
  · refine m_of ⟨_, all_yes _, ?_⟩
    refine ⟨rfl, isdigit_ok ?_⟩
    rw [decide_eq_true h.dg.1, decide_eq_true h.dg.2]
    exact q
theorem islogic_ok {m : Mac} {b : Int} {ts : List (Str × Int)} (h : LogOk m b ts) (q : Q (.d (.bool true))) : S_is_logic_value [.d m.enc, .d (encL b ts)] Q E := by
  refine ⟨rfl, rfl, istup_ok ⟨rfl, isfrom_ok ?_⟩⟩
  rw [decide_eq_true h.b1]
  refine allc_ok (R := fun c => Q (.d c)) (fun x kk hx hk => ?_) q
  obtain ⟨r, hr, rfl⟩ := List.mem_map.mp hx
  exact ⟨rfl, isterm_ok (h.tm r hr) hk⟩
theorem needl_ok {m : Mac} {b : Int} {ts : List (Str × Int)} (hm : m.Ok) (h : LogOk m b ts) (q : Q (.d .none)) : S_need_logic [.d m.enc, .d (encL b ts)] Q E :=
  ⟨rfl, rfl, needm_ok hm ⟨rfl, islogic_ok h q⟩⟩
theorem iscell_ok {m : Mac} {i y : Int} (h0 : 0 ≤ i) (h1 : i < 2 ^ m.s.toNat) (hs : 0 ≤ m.s) (q : Q (.d (.bool true))) : S_is_cell [.d m.look, .d (.tuple [.int i, .int y])] Q E := by
  refine ⟨rfl, rfl, istup_ok ⟨rfl, isint_ok ⟨rfl, isint_ok ⟨trivial, ?_⟩⟩⟩⟩
  refine if_dec (fun _ => ⟨trivial, ?_⟩) fun e => absurd h0 e
  have e : (Builtin.Int.intBits i : Int) ≤ m.s := by
    unfold Builtin.Int.intBits
    by_cases z : i = 0
    · subst z
      exact hs
    · rw [if_neg (show ¬ (i == 0) = true by simpa using z)]
      have h2 : i.natAbs < 2 ^ m.s.toNat := by
        have e : ((2 ^ m.s.toNat : Nat) : Int) = 2 ^ m.s.toNat := by simp
        omega
      have := (Nat.log2_lt (by omega)).mpr h2
      omega
  show Q (.d (.bool (decide ((Builtin.Int.intBits i : Int) ≤ m.s))))
  rw [decide_eq_true e]
  exact q
end
end Q47
set_option maxHeartbeats 1000000
namespace Q47
open PySem PySem.Spec
open PyProof.Rows hiding St
open L2 DL
section
variable {Q : Val → Prop} {E : Str → PyData → Prop}
/-! ### figures -/
def bitC (n : Int) : Nat := if n % 2 = 1 then 49 else 48
/-- the last c figures of n, as signs -/
def figL (n : Int) : Nat → List Nat
  | 0 => []
  | c + 1 => figL (n / 2) c ++ [bitC n]
def mkS (l : List Nat) : Str := ⟨l.toArray⟩
theorem figL_len (n : Int) (c : Nat) : (figL n c).length = c := by
  induction c generalizing n with
  | zero => rfl
  | succ c ih => unfold figL; rw [List.length_append, ih]; rfl
theorem mkS_app (a b : List Nat) : mkS a ++ mkS b = mkS (a ++ b) := by
  show (⟨a.toArray ++ b.toArray⟩ : Str) = ⟨(a ++ b).toArray⟩
  rw [List.append_toArray]
theorem mkS_len (a : List Nat) : (mkS a).length = a.length := by
  show a.toArray.size = a.length
  rw [List.size_toArray]
theorem str_bit (n : Int) : (toString (n.fmod 2) : Str) = mkS [bitC n] := by
  have e : n.fmod 2 = n % 2 := Int.fmod_eq_emod_of_nonneg n (by decide)
  have h : n % 2 = 0 ∨ n % 2 = 1 := by omega
  unfold bitC
  rw [e]
  rcases h with h | h
  · rw [h, if_neg (by decide)]
    decide +kernel
  · rw [h, if_pos rfl]
    decide +kernel
theorem str_of_bit (n : Int) : strOfInt (.int (n.fmod 2)) = some (.str (mkS [bitC n])) := by
  have e : n.fmod 2 = n % 2 := Int.fmod_eq_emod_of_nonneg n (by decide)
  have h : (n.fmod 2).natAbs.log2 < 1920 := by
    have h : n % 2 = 0 ∨ n % 2 = 1 := by omega
    rw [e]
    rcases h with h | h <;> rw [h] <;> decide +kernel
  show (if (n.fmod 2).natAbs.log2 < 1920 then some (PyData.str (toString (n.fmod 2))) else none) = _
  rw [if_pos h, str_bit]
theorem fdiv2 (n : Int) : n.fdiv 2 = n / 2 := Int.fdiv_eq_ediv_of_nonneg n (by decide)
theorem figL_snoc (m : Int) (k : Nat) (l : List Nat) : figL m (k + 1) ++ l = figL (m / 2) k ++ (bitC m :: l) := by
  show (figL (m / 2) k ++ [bitC m]) ++ l = _
  rw [List.append_assoc]
  rfl
theorem figures_ok {n c : Int} (h0 : 0 ≤ c) (h1 : c ≤ 20000) (q : Q (.d (.str (mkS (figL n c.toNat))))) : S_figures [.d (.int n), .d (.int c)] Q E := by
  refine ⟨rfl, by omega, ?_⟩
  refine loop_range (fun i ρ => ∃ (x : Slot) (m : Int) (l : List Nat), ρ = [.val (.d (.int m)), .val (.d (.int c)), .val (.d (.str (mkS l))), x] ∧ l.length = i ∧ figL n c.toNat = figL m (c.toNat - i) ++ l) ⟨_, n, [], rfl, rfl, by simp⟩ ?_ ?_
  · rintro i ρ N hi ⟨x, m, l, rfl, hl, he⟩ hN
    refine ⟨by show (2 : Int) ≠ 0; decide, m_of ⟨_, str_of_bit m, ?_, ?_⟩⟩
    · rw [mkS_len, mkS_len, hl, sizeLine_eq]
      show 1 + i ≤ _
      omega
    · refine ⟨.inl ⟨by decide, by decide⟩, ?_⟩
      refine hN _ ⟨.val (.d (.int (0 + (i : Int)))), m / 2, bitC m :: l, ?_, by rw [List.length_cons, hl], ?_⟩
      · rw [← fdiv2 m, mkS_app]
        rfl
      · rw [he, ← figL_snoc]
        congr 2
        omega
  · rintro ρ ⟨x, m, l, rfl, hl, he⟩
    have : figL n c.toNat = l := by
      rw [he]
      simp [figL]
    rw [this] at q
    exact q
/-! ### words, patterns -/
def wordL (b s i y : Int) : List Nat := figL y b.toNat ++ figL i s.toNat
theorem word_ok {m : Mac} {b i y : Int} (h0 : 0 ≤ b) (h1 : b ≤ 10000) (h2 : 0 ≤ m.s) (h3 : m.s ≤ 60) (q : Q (.d (.str (mkS (wordL b m.s i y))))) : S_word_of [.d m.enc, .d (.int b), .d (.tuple [.int i, .int y])] Q E := by
  refine ⟨rfl, rfl, figures_ok h0 (by omega) ⟨rfl, figures_ok h2 (by omega) ⟨?_, ?_⟩⟩⟩
  · rw [mkS_len, mkS_len, figL_len, figL_len, sizeLine_eq]
    omega
  · rw [mkS_app]
    exact q
def matchL : List Nat → List Nat → Bool
  | p :: ps, c :: cs => (decide (p = 45) || decide (p = c)) && matchL ps cs
  | _, _ => true
theorem sign_eq (a b : Nat) : PyData.eqv (.str ⟨#[a]⟩) (.str ⟨#[b]⟩) = decide (a = b) := by
  show decide ((⟨#[a]⟩ : Str) = ⟨#[b]⟩) = decide (a = b)
  congr 1
  simp
theorem in_pair (p c : Nat) : inSeq (.str ⟨#[p]⟩) [.str "-", .str ⟨#[c]⟩] = (decide (p = 45) || decide (p = c)) := by
  have e : ("-" : Str) = ⟨#[45]⟩ := by decide +kernel
  unfold inSeq
  rw [List.any_cons, List.any_cons, List.any_nil, e, sign_eq, sign_eq, Bool.or_false]
  congr 1 <;> congr 1 <;> exact propext ⟨Eq.symm, Eq.symm⟩
theorem zip_signs : ∀ (ps cs : List Nat), List.zipWith (fun a b => PyData.tuple [a, b]) (ps.map fun c => PyData.str ⟨#[c]⟩) (cs.map fun c => PyData.str ⟨#[c]⟩) = (ps.zip cs).map fun p => .tuple [.str ⟨#[p.1]⟩, .str ⟨#[p.2]⟩]
  | [], _ => by simp
  | _ :: _, [] => by simp
  | p :: ps, c :: cs => by
    rw [List.map_cons, List.map_cons, List.zipWith_cons_cons, List.zip_cons_cons, List.map_cons, zip_signs ps cs]
theorem match_zip : ∀ (ps cs : List Nat), ((ps.zip cs).map fun p => (decide (p.1 = 45) || decide (p.1 = p.2))).all id = matchL ps cs
  | [], _ => rfl
  | _ :: _, [] => rfl
  | p :: ps, c :: cs => by
    rw [List.zip_cons_cons, List.map_cons, List.all_cons, match_zip ps cs]
    rfl
theorem match_ok {ps cs : List Nat} (q : Q (.d (.bool (matchL ps cs)))) : S_does_match [.d (.str (mkS ps)), .d (.str (mkS cs))] Q E := by
  refine ⟨rfl, ?_⟩
  refine (show compL _ (zipD (signD (mkS ps)) (signD (mkS cs))) [] _ from ?_)
  have e : zipD (signD (mkS ps)) (signD (mkS cs)) = (ps.zip cs).map fun p => .tuple [.str ⟨#[p.1]⟩, .str ⟨#[p.2]⟩] := zip_signs ps cs
  rw [e]
  refine comp_map (fun x => match x with
    | .tuple [.str a, .str b] => .bool (inSeq (.str a) [.str "-", .str b])
    | x => x) (fun x kk hx hk => ?_) ?_
  · obtain ⟨p, hp, rfl⟩ := List.mem_map.mp hx
    exact ⟨rfl, sz (n := 2), rfl, rfl, hk⟩
  · refine m_of ⟨.bool (matchL ps cs), ?_, q⟩
    rw [List.map_map]
    have e2 : ((ps.zip cs).map ((fun x => match x with
      | PyData.tuple [.str a, .str b] => .bool (inSeq (.str a) [.str "-", .str b])
      | x => x) ∘ fun p => PyData.tuple [.str ⟨#[p.1]⟩, .str ⟨#[p.2]⟩])) = (ps.zip cs).map fun p => PyData.bool (decide (p.1 = 45) || decide (p.1 = p.2)) := by
      refine List.map_congr_left fun p _ => ?_
      show PyData.bool (inSeq (.str ⟨#[p.1]⟩) [.str "-", .str ⟨#[p.2]⟩]) = _
      rw [in_pair]
    rw [e2]
    unfold allOf
    simp only [bools_map (fun p : Nat × Nat => (decide (p.1 = 45) || decide (p.1 = p.2)))]
    rw [← match_zip ps cs]
    rfl
end
end Q47
set_option maxHeartbeats 1000000
namespace Q47
open PySem PySem.Spec
open PyProof.Rows hiding St
open L2 DL
section
variable {Q : Val → Prop} {E : Str → PyData → Prop}
/-! ### the digits of the terms that fit -/
def hits (ts : List (List Nat × Int)) (w : List Nat) : List Int := (ts.filter fun r => matchL r.1 w).map (·.2)
/-- the one digit, or None -/
def oneOf : List Int → PyData
  | [] => .none
  | d :: r => if r.all (fun e => decide (e = d)) = true then .int d else .none
def soleOf : List Int → PyData
  | [d] => .int d
  | _ => .none
theorem one_int {a : List Int} {d : Int} (h : d ∈ a) (k : ∀ x ∈ a, x = d) : oneOf a = .int d := by
  cases a with
  | nil => cases h
  | cons x r =>
    have e := k x List.mem_cons_self
    subst e
    show (if r.all (fun e => decide (e = x)) = true then PyData.int x else .none) = _
    rw [if_pos (List.all_eq_true.mpr fun y hy => decide_eq_true (k y (List.mem_cons_of_mem _ hy)))]
theorem one_none {a : List Int} (h : ¬ ∃ d, d ∈ a ∧ ∀ x ∈ a, x = d) : oneOf a = .none := by
  cases a with
  | nil => rfl
  | cons x r =>
    show (if r.all (fun e => decide (e = x)) = true then PyData.int x else .none) = _
    refine if_neg fun e => h ⟨x, List.mem_cons_self, fun y hy => ?_⟩
    rcases List.mem_cons.mp hy with z | hy
    · exact z
    · exact of_decide_eq_true (List.all_eq_true.mp e y hy)
theorem one_congr {a b : List Int} (h : ∀ d, d ∈ a ↔ d ∈ b) : oneOf a = oneOf b := by
  by_cases c : ∃ d, d ∈ a ∧ ∀ x ∈ a, x = d
  · obtain ⟨d, h1, h2⟩ := c
    rw [one_int h1 h2, one_int ((h d).mp h1) fun x hx => h2 x ((h x).mpr hx)]
  · rw [one_none c, one_none fun ⟨d, h1, h2⟩ => c ⟨d, (h d).mpr h1, fun x hx => h2 x ((h x).mp hx)⟩]
/-- each digit once -/
theorem one_sole {ks hs : List Int} (nd : ks.Nodup) (h : ∀ d, d ∈ ks ↔ d ∈ hs) : oneOf hs = soleOf ks := by
  rw [← one_congr h]
  match ks, nd with
  | [], _ => rfl
  | [k], _ => rfl
  | k :: k2 :: r, nd =>
    refine one_none fun ⟨d, _, h2⟩ => ?_
    have e1 := h2 k (by simp)
    have e2 := h2 k2 (by simp)
    rw [e1, e2] at nd
    simp at nd
/-! ### what the program answers -/
def rawT (r : Str × Int) : List Nat × Int := (r.1.cps.toList, r.2)
def ansOf (ts : List (Str × Int)) (w : List Nat) : PyData := oneOf (hits (ts.map rawT) w)
theorem keyD_int (ks : List Int) : (dictD (ks.map fun k => ((.inl k : Key), PyData.bool true))).map (·.1) = ks.map PyData.int := by
  unfold dictD
  rw [List.map_map, List.map_map]
  exact List.map_congr_left fun _ _ => rfl
theorem put_keys (ks : List Int) (d : Int) : putD (ks.map fun k => ((.inl k : Key), PyData.bool true)) (.inl d) (.bool true) = (if d ∈ ks then ks else ks ++ [d]).map fun k => ((.inl k : Key), PyData.bool true) := by
  have e : ((ks.map fun k => ((.inl k : Key), PyData.bool true)).any fun kv => decide (kv.1 = (.inl d : Key))) = decide (d ∈ ks) := by
    induction ks with
    | nil => rfl
    | cons k r ih =>
      rw [List.map_cons, List.any_cons, ih]
      by_cases z : k = d
      · subst z
        simp
      · have z2 : d ≠ k := fun y => z y.symm
        simp [z, z2]
  unfold putD
  rw [e]
  by_cases h : d ∈ ks
  · rw [if_pos (decide_eq_true h), if_pos h, List.map_map]
    refine List.map_congr_left fun k _ => ?_
    show (if (Sum.inl k : Key) = Sum.inl d then _ else _) = _
    split <;> rfl
  · rw [if_neg (by simp [h]), if_neg h, List.map_append]
    rfl
theorem mkS_raw (x : Str) : mkS x.cps.toList = x := by
  show (⟨x.cps.toList.toArray⟩ : Str) = x
  simp
theorem out_of_ok {m : Mac} {b i y : Int} {ts : List (Str × Int)} (h0 : 0 ≤ b) (h1 : b ≤ 10000) (h2 : 0 ≤ m.s) (h3 : m.s ≤ 60) (ht : ts.length ≤ 10000) (q : Q (.d (ansOf ts (wordL b m.s i y)))) :
    S_output_of [.d m.enc, .d (encL b ts), .d (.tuple [.int i, .int y])] Q E := by
  refine ⟨rfl, rfl, word_ok h0 h1 h2 h3 ?_⟩
  refine ⟨by rw [List.length_map, sizeLine_eq]; omega, ?_⟩
  refine compD_at (fun j acc => ∃ ks : List Int, acc = ks.map (fun k => ((.inl k : Key), PyData.bool true)) ∧ ks.Nodup ∧ ∀ d, d ∈ ks ↔ d ∈ hits ((ts.take j).map rawT) (wordL b m.s i y)) ⟨[], rfl, List.nodup_nil, fun d => by simp [hits]⟩ (fun j x acc kk hx hI hk => ?_) ?_
  · obtain ⟨ks, rfl, nd, hm⟩ := hI
    rw [List.getElem?_map] at hx
    cases e : ts[j]? with
    | none => rw [e] at hx; cases hx
    | some r =>
      rw [e] at hx
      cases hx
      have et : (ts.take (j + 1)).map rawT = (ts.take j).map rawT ++ [rawT r] := by
        rw [List.take_add_one, e, List.map_append]
        rfl
      have eh : hits ((ts.take (j + 1)).map rawT) (wordL b m.s i y) = hits ((ts.take j).map rawT) (wordL b m.s i y) ++ (if matchL r.1.cps.toList (wordL b m.s i y) = true then [r.2] else []) := by
        rw [et]
        unfold hits
        rw [List.filter_append, List.map_append]
        congr 1
        by_cases c : matchL r.1.cps.toList (wordL b m.s i y) = true
        · rw [if_pos c]
          have : ([rawT r].filter fun r => matchL r.1 (wordL b m.s i y)) = [rawT r] := by
            rw [List.filter_cons, if_pos (show matchL (rawT r).1 _ = true from c)]
            rfl
          rw [this]
          rfl
        · rw [if_neg c]
          have : ([rawT r].filter fun r => matchL r.1 (wordL b m.s i y)) = [] := by
            rw [List.filter_cons, if_neg (show ¬ matchL (rawT r).1 _ = true from c)]
            rfl
          rw [this]
          rfl
      refine ⟨rfl, rfl, ?_⟩
      rw [← mkS_raw r.1]
      refine match_ok (if_tf (fun c => ?_) fun c => ?_)
      · refine hk (some (.inl r.2, .bool true)) ⟨if r.2 ∈ ks then ks else ks ++ [r.2], put_keys ks r.2, ?_, fun d => ?_⟩
        · split
          · exact nd
          · rename_i n
            rw [List.nodup_append]
            exact ⟨nd, by simp, fun a ha b hb => by rw [List.mem_singleton.mp hb]; exact fun z => n (z ▸ ha)⟩
        · rw [eh, if_pos c, List.mem_append, ← hm d]
          split
          · rename_i n
            exact ⟨.inl, fun z => z.elim id fun z => by rw [List.mem_singleton.mp z]; exact n⟩
          · rw [List.mem_append]
      · refine hk none ⟨ks, rfl, nd, fun d => ?_⟩
        rw [eh, if_neg (by rw [c]; simp), List.append_nil]
        exact hm d
  · rintro acc ⟨ks, rfl, nd, hm⟩
    rw [List.length_map, List.take_length] at hm
    have ea : ansOf ts (wordL b m.s i y) = soleOf ks := one_sole nd hm
    rw [ea] at q
    refine ⟨rfl, rfl, ?_⟩
    have el : (dictD (ks.map fun k => ((.inl k : Key), PyData.bool true))).length = ks.length := by
      unfold dictD
      rw [List.length_map, List.length_map]
    show if PyData.eqv (.int ((dictD (ks.map fun k => ((.inl k : Key), PyData.bool true))).length : Int)) (.int 1) = true then _ else _
    rw [el]
    match ks with
    | [] => exact q
    | [k] =>
      exact if_t rfl q
    | k :: k2 :: r =>
      refine if_f ?_ q
      show decide (((k :: k2 :: r).length : Int) = 1) = false
      rw [decide_eq_false]
      rw [List.length_cons, List.length_cons]
      omega
theorem output_ok {m : Mac} {b i y : Int} {ts : List (Str × Int)} (hm : m.Ok) (hl : LogOk m b ts) (ht : ts.length ≤ 10000) (i0 : 0 ≤ i) (i1 : i < 2 ^ m.s.toNat) (q : Q (.d (ansOf ts (wordL b m.s i y)))) :
    S_output [.d m.enc, .d (encL b ts), .d (.tuple [.int i, .int y])] Q E := by
  have := hl.b1
  exact ⟨rfl, rfl, needl_ok hm hl ⟨rfl, iscell_ok i0 i1 hm.s0 ⟨rfl, out_of_ok (by omega) hl.bm hm.s0 hm.s60 ht q⟩⟩⟩
end
end Q47
set_option maxHeartbeats 1000000
namespace Q47
open PySem PySem.Spec
open PyProof.Rows hiding St
open L2 DL
section
variable {Q : Val → Prop} {E : Str → PyData → Prop}
/-! ### the law's own draws -/
theorem small_log {n : Nat} (h : n ≤ 2 ^ 40) : n.log2 < 9000 := by
  by_cases z : n = 0
  · subst z; decide
  · exact Nat.lt_of_lt_of_le ((Nat.log2_lt z).mpr (Nat.lt_of_le_of_lt h (show (2 : Nat) ^ 40 < 2 ^ 41 by decide))) (by decide)
theorem draw_ok {n : Int} (h0 : 0 < n) (h1 : n ≤ 2 ^ 40) (q : ∀ r : Int, 0 ≤ r → r < n → Q (.d (.int r))) : S__law_draw [.deck "left", .d (.int n)] Q E :=
  ⟨n, rfl, h0, small_log (by omega), q⟩
theorem at_ok {α : Type} {xs : List α} {r : Int} (h0 : 0 ≤ r) (h1 : r < xs.length) : ∃ x ∈ xs, atI xs r = some x := by
  have hl : r.toNat < xs.length := by omega
  refine ⟨xs[r.toNat], List.getElem_mem _, ?_⟩
  have := atI_nat (List.getElem?_eq_getElem hl)
  have e : ((r.toNat : Nat) : Int) = r := by omega
  rw [e] at this
  exact this
theorem len_pos {α : Type} {xs : List α} (h : xs ≠ []) : 0 < xs.length := by
  cases xs with
  | nil => exact absurd rfl h
  | cons _ _ => exact Nat.succ_pos _
theorem pick_ok {xs : List PyData} (h0 : xs ≠ []) (h1 : xs.length ≤ 100000) (q : ∀ x ∈ xs, Q (.d x)) : S__law_pick [.deck "left", .d (.tuple xs)] Q E := by
  have hl := len_pos h0
  refine ⟨rfl, rfl, draw_ok (by omega) (by omega) fun r r0 r1 => ?_⟩
  obtain ⟨x, hx, e⟩ := at_ok r0 r1
  exact m_of ⟨x, e, q x hx⟩
theorem pickL_ok {xs : List PyData} (h0 : xs ≠ []) (h1 : xs.length ≤ 100000) (q : ∀ x ∈ xs, Q (.d x)) : S__law_pick [.deck "left", .d (.list xs)] Q E := by
  have hl := len_pos h0
  refine ⟨rfl, rfl, draw_ok (by omega) (by omega) fun r r0 r1 => ?_⟩
  obtain ⟨x, hx, e⟩ := at_ok r0 r1
  exact m_of ⟨x, e, q x hx⟩
theorem pickS_ok {y : Str} (h0 : y.cps.toList ≠ []) (h1 : y.length ≤ 100000) (q : ∀ c ∈ y.cps.toList, Q (.d (.str ⟨#[c]⟩))) : S__law_pick [.deck "left", .d (.str y)] Q E := by
  have hl := len_pos h0
  have el : y.cps.toList.length = y.length := by rw [Array.length_toList]; rfl
  refine ⟨rfl, rfl, draw_ok (by omega) (by omega) fun r r0 r1 => ?_⟩
  obtain ⟨x, hx, e⟩ := at_ok (xs := y.cps.toList) r0 (by omega)
  refine m_of ⟨.str ⟨#[x]⟩, ?_, q x hx⟩
  show (atI y.cps.toList r).map (fun c => PyData.str ⟨#[c]⟩) = _
  rw [e]
  rfl
theorem same_ok {x : PyData} {t : Str} (h : reprOf false x = some (.str t)) (q : Q (.d (.bool true))) : S__law_same [.d x, .d x] Q E := by
  refine ⟨rfl, m_of ⟨_, h, m_of ⟨_, h, ?_⟩⟩⟩
  show Q (.d (.bool (decide (t = t))))
  rw [decide_eq_true rfl]
  exact q
theorem scheme_ok (q : ∀ k sg : Int, SchOk k sg → Q (.d (.tuple [.int k, .int sg]))) : S__law_scheme [.deck "left"] Q E := by
  refine ⟨rfl, sz (n := 7), rfl, pick_ok (by simp) (by decide) fun x hx => ?_⟩
  have hk : ∃ k : Int, 1 ≤ k ∧ k ≤ 3 ∧ x = .int k := by
    simp at hx
    rcases hx with rfl | rfl | rfl | rfl | rfl | rfl <;> exact ⟨_, by decide, by decide, rfl⟩
  obtain ⟨k, k1, k3, rfl⟩ := hk
  refine ⟨sz (n := 4), m_of ⟨.int (2 ^ (k - 1).toNat), ?_, ?_⟩⟩
  · have : k = 1 ∨ k = 2 ∨ k = 3 := by omega
    rcases this with rfl | rfl | rfl <;> rfl
  · have hp : (0 : Int) < 2 ^ (k - 1).toNat ∧ (2 : Int) ^ (k - 1).toNat ≤ 4 ∧ (2 : Int) ^ k.toNat = 2 ^ (k - 1).toNat + 2 ^ (k - 1).toNat := by
      have : k = 1 ∨ k = 2 ∨ k = 3 := by omega
      rcases this with rfl | rfl | rfl <;> decide
    refine ⟨rfl, draw_ok hp.1 (by omega) fun r r0 r1 => ⟨sz (n := 2), q k _ ⟨k1, k3, by omega, by omega⟩⟩⟩
/-! ### any machine -/
theorem ints_of {P : Int → Prop} : ∀ {ys : List PyData}, (∀ y ∈ ys, ∃ d : Int, y = .int d ∧ P d) → ∃ ds : List Int, ys = ds.map .int ∧ ∀ d ∈ ds, P d
  | [], _ => ⟨[], rfl, fun d h => by cases h⟩
  | y :: ys, h => by
    obtain ⟨d, rfl, hd⟩ := h y List.mem_cons_self
    obtain ⟨ds, rfl, hds⟩ := ints_of fun y hy => h y (List.mem_cons_of_mem _ hy)
    exact ⟨d :: ds, rfl, fun x hx => by
      rcases List.mem_cons.mp hx with rfl | hx
      · exact hd
      · exact hds x hx⟩
def rangeL (sg : Int) : List PyData := (List.range (sg + 1 - -sg).toNat).map fun k : Nat => PyData.int (-sg + (k : Int))
theorem range_mem {sg : Int} {x : PyData} (h : x ∈ rangeL sg) : ∃ d : Int, x = .int d ∧ (-sg ≤ d ∧ d ≤ sg) := by
  obtain ⟨k, hk, rfl⟩ := List.mem_map.mp h
  rw [List.mem_range] at hk
  exact ⟨_, rfl, by omega, by omega⟩
theorem range_of {sg : Int} (h : 1 ≤ sg) (h2 : sg ≤ 1000) : rangeOf (.int (-sg)) (.int (sg + 1)) = some (rangeL sg) := if_pos ⟨by omega, by omega, by omega⟩
theorem rangeL_len (sg : Int) : (rangeL sg).length = (sg + 1 - -sg).toNat := by unfold rangeL; rw [List.length_map, List.length_range]
theorem rangeL_ne {sg : Int} (h : 0 ≤ sg) : rangeL sg ≠ [] := fun e => by
  have := congrArg List.length e
  rw [rangeL_len] at this
  simp at this
  omega
theorem SchOk.sg {k sg : Int} (h : SchOk k sg) : 1 ≤ sg ∧ sg ≤ 7 := by
  have h1 := h.k1
  have h2 := h.k3
  have h3 := h.lo
  have h4 := h.hi
  have : k = 1 ∨ k = 2 ∨ k = 3 := by omega
  rcases this with rfl | rfl | rfl
  · have e1 : (2 : Int) ^ (1 - 1 : Int).toNat = 1 := by decide
    have e2 : (2 : Int) ^ (1 : Int).toNat = 2 := by decide
    omega
  · have e1 : (2 : Int) ^ (2 - 1 : Int).toNat = 2 := by decide
    have e2 : (2 : Int) ^ (2 : Int).toNat = 4 := by decide
    omega
  · have e1 : (2 : Int) ^ (3 - 1 : Int).toNat = 4 := by decide
    have e2 : (2 : Int) ^ (3 : Int).toNat = 8 := by decide
    omega
theorem anymachine_ok (q : ∀ m : Mac, m.Ok → m.s ≤ 4 → Q (.d m.enc)) : S__law_any_machine [.deck "left", .d (.int 30)] Q E := by
  refine ⟨rfl, rfl, scheme_ok fun k sg hs => ⟨sz (n := 7), rfl, pick_ok (by simp) (by decide) fun x hx => ?_⟩⟩
  have hsg := hs.sg
  have hx2 : ∃ s : Int, 0 ≤ s ∧ s ≤ 4 ∧ x = .int s := by
    simp at hx
    rcases hx with rfl | rfl | rfl | rfl | rfl | rfl | rfl <;> exact ⟨_, by decide, by decide, rfl⟩
  obtain ⟨s, s0, s4, rfl⟩ := hx2
  refine ⟨rfl, trivial, rfl, draw_ok ?_ ?_ fun t t0 t1 => ?_⟩
  · split <;> omega
  · split <;> omega
  have l1 : ShlC 1 s := by
    have : (1 : Int).natAbs.log2 = 0 := by decide
    exact ⟨s0, by rw [this]; omega⟩
  have hp : (1 : Int) * 2 ^ s.toNat = 2 ^ s.toNat ∧ (1 : Int) ≤ 2 ^ s.toNat ∧ (2 : Int) ^ s.toNat ≤ 16 := by
    have : s = 0 ∨ s = 1 ∨ s = 2 ∨ s = 3 ∨ s = 4 := by omega
    rcases this with rfl | rfl | rfl | rfl | rfl <;> decide
  refine m_ofL ⟨_, range_of hsg.1 (by omega), Nat.zero_le _, rfl, l1, trivial, l1, ?_, ?_⟩
  · show ((1 : Int) * 2 ^ s.toNat).natAbs ≤ 16777216
    omega
  refine loop_range (fun j ρ => ∃ (x8 x9 x10 : Slot) (lf : Int) (rs : List (Int × List Int)), 0 ≤ lf ∧ lf ≤ 30 ∧
    ρ = [.val (.deck "left"), .val (.d (.int 30)), .val (.d (.tuple [.int k, .int sg])), .val (.d (.int s)), .val (.d (.int t)), .val (.d (.list (rangeL sg))), .own (rs.map encRow), .val (.d (.int lf)), x8, x9, x10, .un] ∧ rs.length = j ∧ ∀ r ∈ rs, RowOk sg r) ?_ ?_ ?_
  · exact ⟨.un, .un, .un, 30 - 1 * 2 ^ s.toNat, [], by omega, by omega, rfl, rfl, fun r h => by cases h⟩
  · rintro j ρ N hj ⟨x8, x9, x10, lf, rs, lf0, lf1, rfl, hl, hr⟩ hN
    refine ⟨sz (n := 8), rfl, pick_ok (by simp) (by decide) fun x hx => ?_⟩
    have hx3 : ∃ p : Int, 0 ≤ p ∧ p ≤ 16 ∧ x = .int p := by
      simp at hx
      rcases hx with rfl | rfl | rfl | rfl | rfl | rfl | rfl | rfl <;> exact ⟨_, by decide, by decide, rfl⟩
    obtain ⟨p, p0, p16, rfl⟩ := hx3
    have hmn : ∃ mn : Int, mn = (if p < lf then p else lf) ∧ 0 ≤ mn ∧ mn ≤ 16 ∧ mn ≤ lf := by
      by_cases c : p < lf
      · exact ⟨_, rfl, by rw [if_pos c]; omega, by rw [if_pos c]; omega, by rw [if_pos c]; omega⟩
      · exact ⟨_, rfl, by rw [if_neg c]; omega, by rw [if_neg c]; omega, by rw [if_neg c]; omega⟩
    obtain ⟨mn, emn, m0, m16, mlf⟩ := hmn
    refine ⟨trivial, trivial, sz (n := 13), rfl, pick_ok (by simp) (by show (13 : Nat) ≤ 100000; decide) fun x hx => ?_⟩
    have hx4 : ∃ low : Int, x = .int low := by
      simp at hx
      rcases hx with rfl | rfl | rfl | rfl | rfl | rfl | rfl | rfl | rfl | rfl | rfl | rfl | rfl <;> exact ⟨_, rfl⟩
    obtain ⟨low, rfl⟩ := hx4
    rw [← emn]
    refine ⟨?_, comp_any (fun y => ∃ d : Int, y = .int d ∧ (-sg ≤ d ∧ d ≤ sg)) (fun x kk hx hk => ⟨rfl, pickL_ok ?_ ?_ fun y hy => hk y (range_mem hy)⟩) fun ys hys hp => ?_⟩
    · show (1 + mn).natAbs ≤ 16777216
      omega
    · exact rangeL_ne (by omega)
    · rw [rangeL_len]; omega
    · obtain ⟨ds, rfl, hds⟩ := ints_of hp
      have hlen : ds.length = (1 + mn).toNat := by
        rw [List.length_map, List.length_map, List.length_range] at hys
        exact hys
      refine ⟨sz (n := 2), ?_, hN _ ⟨.val (.d (.int (0 + (j : Int)))), .val (.d (.int mn)), .val (.d (.int low)), lf - mn, rs ++ [(low, ds)], by omega, by omega, ?_, by rw [List.length_append, hl]; rfl, fun r hr2 => ?_⟩⟩
      · have hj2 : (j : Int) < 16 := by
          have : ((1 : Int) * 2 ^ s.toNat).toNat ≤ 16 := by omega
          omega
        rw [List.length_map, hl, sizeLine_eq]
        omega
      · rw [List.map_append]
        rfl
      · rcases List.mem_append.mp hr2 with hr2 | hr2
        · exact hr r hr2
        · rw [List.mem_singleton.mp hr2]
          refine ⟨fun e => ?_, hds⟩
          have e : ds = [] := e
          rw [e] at hlen
          simp at hlen
          omega
  · rintro ρ ⟨x8, x9, x10, lf, rs, lf0, lf1, rfl, hl, hr⟩
    refine ⟨sz (n := 2), rfl, pick_ok (by simp) (by decide) fun x hx => ?_⟩
    have hx5 : ∃ kd : Str, x = .str kd ∧ (kd = "one" ∨ kd = "pair") := by
      simp at hx
      rcases hx with rfl | rfl
      · exact ⟨_, rfl, .inl rfl⟩
      · exact ⟨_, rfl, .inr rfl⟩
    obtain ⟨kd, rfl, hkd⟩ := hx5
    refine ⟨sz (n := 3), sz (n := 3), q ⟨k, sg, t, s, kd, rs⟩ ⟨hs, t0, s0, show s ≤ 60 by omega, hkd, ?_, hr⟩ s4⟩
    show (rs.length : Int) = 2 ^ s.toNat
    rw [hl]
    omega
end
end Q47
set_option maxHeartbeats 1000000
namespace Q47
open PySem PySem.Spec
open PyProof.Rows hiding St
open L2 DL
section
variable {Q : Val → Prop} {E : Str → PyData → Prop}
/-! ### any logic -/
theorem fold_signs : ∀ (cs : List Nat) (a : Array Nat), (cs.map fun c => (⟨#[c]⟩ : Str)).foldl (fun acc p => acc ++ ("" : Str).cps ++ p.cps) a = a ++ cs.toArray
  | [], a => by simp
  | c :: cs, a => by
    rw [List.map_cons, List.foldl_cons, fold_signs cs]
    have e : ("" : Str).cps = #[] := rfl
    rw [e]
    simp
theorem join_signs (cs : List Nat) : Txt.join "" (cs.map fun c => (⟨#[c]⟩ : Str)) = mkS cs := by
  cases cs with
  | nil => rfl
  | cons c cs =>
    show (⟨((cs.map fun c => (⟨#[c]⟩ : Str))).foldl (fun acc p => acc ++ ("" : Str).cps ++ p.cps) #[c]⟩ : Str) = mkS (c :: cs)
    rw [fold_signs]
    simp [mkS]
theorem strs_signs : ∀ cs : List Nat, strsOf (cs.map fun c => PyData.str ⟨#[c]⟩) = some (cs.map fun c => (⟨#[c]⟩ : Str))
  | [] => rfl
  | c :: cs => by
    rw [List.map_cons]
    show (strsOf _).map _ = _
    rw [strs_signs cs]
    rfl
theorem sum_ones : ∀ cs : List Nat, ((cs.map fun c => (⟨#[c]⟩ : Str)).map (·.length)).sum = cs.length
  | [] => rfl
  | c :: cs => by
    rw [List.map_cons, List.map_cons, List.sum_cons, sum_ones cs, List.length_cons]
    show 1 + cs.length = _
    omega
theorem join_ok {cs : List Nat} (h : cs.length ≤ 100000) : joinOf "" (.list (cs.map fun c => PyData.str ⟨#[c]⟩)) = some (.str (mkS cs)) := by
  unfold joinOf
  simp only [strs_signs]
  rw [join_signs, if_pos]
  rw [sum_ones, mkS_len, List.length_map, sizeLine_eq]
  have : ("" : Str).length = 0 := rfl
  rw [this]
  omega
theorem signs_of {P : Nat → Prop} : ∀ {ys : List PyData}, (∀ y ∈ ys, ∃ c : Nat, y = .str ⟨#[c]⟩ ∧ P c) → ∃ cs : List Nat, ys = (cs.map fun c => PyData.str ⟨#[c]⟩) ∧ ∀ c ∈ cs, P c
  | [], _ => ⟨[], rfl, fun d h => by cases h⟩
  | y :: ys, h => by
    obtain ⟨d, rfl, hd⟩ := h y List.mem_cons_self
    obtain ⟨ds, rfl, hds⟩ := signs_of fun y hy => h y (List.mem_cons_of_mem _ hy)
    exact ⟨d :: ds, rfl, fun x hx => by
      rcases List.mem_cons.mp hx with rfl | hx
      · exact hd
      · exact hds x hx⟩
theorem anylogic_ok {m : Mac} (hm : m.Ok) (h4 : m.s ≤ 4) (q : ∀ (b : Int) (ts : List (Str × Int)), LogOk m b ts → b ≤ 12 → ts.length ≤ 30 → Q (.d (encL b ts))) : S__law_any_logic [.deck "left", .d m.enc] Q E := by
  have hsg := hm.sch.sg
  have hs0 := hm.s0
  refine ⟨rfl, sz (n := 8), rfl, pick_ok (by simp) (by decide) fun x hx => ?_⟩
  have hx1 : ∃ b : Int, 1 ≤ b ∧ b ≤ 12 ∧ x = .int b := by
    simp at hx
    rcases hx with rfl | rfl | rfl | rfl | rfl | rfl | rfl | rfl <;> exact ⟨_, by decide, by decide, rfl⟩
  obtain ⟨b, b1, b12, rfl⟩ := hx1
  refine ⟨Nat.zero_le _, rfl, sz (n := 3), rfl, pick_ok (by simp) (by decide) fun x hx => ?_⟩
  have hx2 : ∃ sn : Str, x = .str sn ∧ sn.cps.toList ≠ [] ∧ sn.length ≤ 100 ∧ ∀ c ∈ sn.cps.toList, c = 48 ∨ c = 49 ∨ c = 45 := by
    simp at hx
    rcases hx with rfl | rfl | rfl <;> exact ⟨_, rfl, by decide +kernel, by decide +kernel, by decide +kernel⟩
  obtain ⟨sn, rfl, n1, n2, n3⟩ := hx2
  refine m_ofL ⟨_, range_of hsg.1 (by omega), rfl, sz (n := 8), rfl, pick_ok (by simp) (by decide) fun x hx => ?_⟩
  have hx3 : ∃ n : Int, 0 ≤ n ∧ n ≤ 30 ∧ x = .int n := by
    simp at hx
    rcases hx with rfl | rfl | rfl | rfl | rfl | rfl | rfl | rfl <;> exact ⟨_, by decide, by decide, rfl⟩
  obtain ⟨n, hn0, hn30, rfl⟩ := hx3
  refine ⟨by omega, ?_⟩
  refine loop_range (fun j ρ => ∃ (x6 x7 : Slot) (ts : List (Str × Int)),
    ρ = [.val (.deck "left"), .val (.d m.enc), .val (.d (.int b)), .own (ts.map encT), .val (.d (.str sn)), .val (.d (.list (rangeL m.sg))), x6, x7, .un] ∧ ts.length = j ∧ ∀ r ∈ ts, TermOk m.sg (b + m.s) r) ?_ ?_ ?_
  · exact ⟨.un, .un, [], rfl, rfl, fun r h => by cases h⟩
  · rintro j ρ N hj ⟨x6, x7, ts, rfl, hl, ht⟩ hN
    refine ⟨show (b + m.s).natAbs ≤ 16777216 by omega, comp_any (fun y => ∃ c : Nat, y = .str ⟨#[c]⟩ ∧ (c = 48 ∨ c = 49 ∨ c = 45)) (fun x kk hx hk => ⟨rfl, pickS_ok n1 (by omega) fun c hc => hk _ ⟨c, rfl, n3 c hc⟩⟩) fun ys hys hp => ?_⟩
    obtain ⟨cs, rfl, hcs⟩ := signs_of hp
    have hlen : cs.length = (b + m.s).toNat := by
      rw [List.length_map, List.length_map, List.length_range] at hys
      exact hys
    refine m_of ⟨_, join_ok (by omega), rfl, pickL_ok (rangeL_ne (by omega)) (by rw [rangeL_len]; omega) fun x hx => ?_⟩
    obtain ⟨d, rfl, hd⟩ := range_mem hx
    refine ⟨sz (n := 2), ?_, hN _ ⟨.val (.d (.int (0 + (j : Int)))), .val (.d (.str (mkS cs))), ts ++ [(mkS cs, d)], ?_, by rw [List.length_append, hl]; rfl, fun r hr => ?_⟩⟩
    · rw [List.length_map, hl, sizeLine_eq]
      omega
    · rw [List.map_append]
      rfl
    · rcases List.mem_append.mp hr with hr | hr
      · exact ht r hr
      · rw [List.mem_singleton.mp hr]
        refine ⟨?_, ?_, hd⟩
        · show ((mkS cs).length : Int) = _
          rw [mkS_len, hlen]
          omega
        · show ∀ c ∈ (mkS cs).cps.toList, _
          have e : (mkS cs).cps.toList = cs := by simp [mkS]
          rw [e]
          exact hcs
  · rintro ρ ⟨x6, x7, ts, rfl, hl, ht⟩
    exact ⟨sz (n := 2), q b ts ⟨b1, by omega, ht⟩ b12 (by omega)⟩
end
end Q47
set_option maxHeartbeats 1000000
namespace Q47
open PySem PySem.Spec
open PyProof.Rows hiding St
open L2 DL
section
variable {Q : Val → Prop} {E : Str → PyData → Prop}
/-! ### the terms in another order -/
theorem erase_perm {α : Type} : ∀ {l : List α} {i : Nat} (h : i < l.length), (l[i] :: l.eraseIdx i).Perm l
  | x :: l, 0, _ => List.Perm.refl _
  | x :: l, i + 1, h => by
    have h' : i < l.length := by simpa using h
    have ih := erase_perm (l := l) (i := i) h'
    show (l[i] :: x :: l.eraseIdx i).Perm (x :: l)
    exact (List.Perm.swap x _ _).trans (ih.cons x)
theorem mixed_ok {xs : List PyData} (h1 : xs.length ≤ 10000) (q : ∀ ys : List PyData, ys.Perm xs → Q (.d (.list ys))) : S__law_mixed [.deck "left", .d (.list xs)] Q E := by
  refine ⟨rfl, Nat.zero_le _, rfl, show ((xs.length : Nat) : Int).natAbs ≤ 16777216 by omega, ?_⟩
  refine loop_range (fun j ρ => ∃ (x4 : Slot) (l f : List PyData), ρ = [.val (.deck "left"), .val (.d (.list xs)), .own l, .own f, x4] ∧ f.length = j ∧ l.length + j = xs.length ∧ (l ++ f).Perm xs) ?_ ?_ ?_
  · exact ⟨.un, xs, [], rfl, rfl, rfl, by rw [List.append_nil]⟩
  · rintro j ρ N hj ⟨x4, l, f, rfl, hf, hl, hp⟩ hN
    have hj2 : j < xs.length := by omega
    refine ⟨rfl, draw_ok (by omega) (by omega) fun r r0 r1 => ?_⟩
    have hr : r.toNat < l.length := by omega
    refine m_of ⟨l[r.toNat], List.getElem?_eq_getElem hr, r0, ?_, hN _ ⟨.val (.d (.int (0 + (j : Int)))), l.eraseIdx r.toNat, f ++ [l[r.toNat]], rfl, by rw [List.length_append, hf]; rfl, ?_, ?_⟩⟩
    · rw [hf, sizeLine_eq]; omega
    · rw [List.length_eraseIdx_of_lt hr]; omega
    · have e1 : (l.eraseIdx r.toNat ++ (f ++ [l[r.toNat]])).Perm (l[r.toNat] :: (l.eraseIdx r.toNat ++ f)) := by
        rw [← List.append_assoc]
        exact List.perm_append_singleton _ _
      have e2 : (l[r.toNat] :: l.eraseIdx r.toNat).Perm l := erase_perm hr
      exact e1.trans ((e2.append_right f).trans hp)
  · rintro ρ ⟨x4, l, f, rfl, hf, hl, hp⟩
    have hn : l = [] := by
      have : l.length = 0 := by
        have e : ((xs.length : Nat) : Int).toNat = xs.length := by omega
        rw [e] at hl
        omega
      exact List.eq_nil_of_length_eq_zero this
    rw [hn] at hp
    exact q f hp
/-! ### the figures, reckoned the law's way -/
theorem and_one (x : Int) : Builtin.bitAnd x 1 = x % 2 := by
  have := Bits.bit_at (x := x) 0
  simpa using this
theorem figL_get : ∀ (c : Nat) (n : Int) (p : Nat), p < c → (figL n c)[p]? = some (bitC (n / 2 ^ (c - 1 - p)))
  | 0, _, _, h => absurd h (Nat.not_lt_zero _)
  | c + 1, n, p, h => by
    unfold figL
    by_cases hp : p < c
    · rw [List.getElem?_append_left (by rw [figL_len]; exact hp), figL_get c (n / 2) p hp]
      have e : c + 1 - 1 - p = (c - 1 - p) + 1 := by omega
      rw [e, Int.pow_succ, Int.mul_comm, ← Int.ediv_ediv_of_nonneg (by decide)]
    · have e : p = c := by omega
      subst e
      rw [List.getElem?_append_right (by rw [figL_len] <;> exact Nat.le_refl _), figL_len]
      have e : p + 1 - 1 - p = 0 := by omega
      rw [e]
      simp
theorem bit_text (v : Int) : (if decide (Builtin.bitAnd v 1 = 1) = true then ("1" : Str) else "0") = mkS [bitC v] := by
  rw [and_one]
  unfold bitC
  by_cases h : v % 2 = 1
  · rw [if_pos (decide_eq_true h), if_pos h]
    decide +kernel
  · rw [if_neg (by simp [h]), if_neg h]
    decide +kernel
/-- the low part has the low figures -/
theorem low_bit {y : Int} {b p : Nat} (h : p < b) : bitC ((y - y / 2 ^ b * 2 ^ b) / 2 ^ p) = bitC (y / 2 ^ p) := by
  have e1 : (2 : Int) ^ b = 2 ^ p * (2 * 2 ^ (b - p - 1)) := by
    rw [← Int.pow_succ', ← Int.pow_add]
    congr 1
    omega
  have hp : (0 : Int) < 2 ^ p := Int.pow_pos (by decide)
  have e2 : y - y / 2 ^ b * 2 ^ b = y + 2 ^ p * (-(y / 2 ^ b * (2 * 2 ^ (b - p - 1)))) := by
    have : y / 2 ^ b * 2 ^ b = 2 ^ p * (y / 2 ^ b * (2 * 2 ^ (b - p - 1))) := by
      conv => lhs; rhs; rw [e1]
      rw [← Int.mul_assoc, Int.mul_comm (y / 2 ^ b) (2 ^ p), Int.mul_assoc]
    rw [this, Int.mul_neg]
    omega
  rw [e2, Int.add_mul_ediv_left _ _ (by omega)]
  have e3 : y / 2 ^ p + -(y / 2 ^ b * (2 * 2 ^ (b - p - 1))) = y / 2 ^ p + 2 * (-(y / 2 ^ b * 2 ^ (b - p - 1))) := by
    rw [Int.mul_neg, ← Int.mul_assoc, ← Int.mul_assoc, Int.mul_comm 2 (y / 2 ^ b)]
  rw [e3]
  unfold bitC
  rw [show (y / 2 ^ p + 2 * (-(y / 2 ^ b * 2 ^ (b - p - 1)))) % 2 = y / 2 ^ p % 2 by omega]
theorem take_more {l : List Nat} {j : Nat} {c : Nat} (h : l[j]? = some c) : mkS (l.take j) ++ mkS [c] = mkS (l.take (j + 1)) := by
  rw [mkS_app, List.take_add_one, h]
  rfl
theorem bit_yes {v : Int} (h : PyData.eqv (.int (Builtin.bitAnd v 1)) (.int 1) = true) : ("1" : Str) = mkS [bitC v] := by
  have h : decide (Builtin.bitAnd v 1 = 1) = true := h
  rw [← bit_text, if_pos h]
theorem bit_no {v : Int} (h : PyData.eqv (.int (Builtin.bitAnd v 1)) (.int 1) = false) : ("0" : Str) = mkS [bitC v] := by
  have h : decide (Builtin.bitAnd v 1 = 1) = false := h
  rw [← bit_text, h]
  rfl
theorem log_le {n : Nat} {k : Nat} (h : n < 2 ^ k) : n.log2 ≤ k := by
  by_cases z : n = 0
  · subst z; exact Nat.zero_le _
  · exact Nat.le_of_lt ((Nat.log2_lt z).mpr h)
theorem bits_ok {b s i y : Int} (b0 : 0 ≤ b) (b1 : b ≤ 1000) (s0 : 0 ≤ s) (s1 : s ≤ 1000) (hy : y.natAbs < 2 ^ 200) (q : Q (.d (.str (mkS (wordL b s i y))))) :
    S__law_bits [.d (.int b), .d (.int s), .d (.tuple [.int i, .int y])] Q E := by
  have hsh : ShlC (y / 2 ^ b.toNat) b := by
    refine ⟨b0, ?_⟩
    have h1 : (y / 2 ^ b.toNat).natAbs ≤ y.natAbs := Int.natAbs_ediv_le_natAbs _ _
    have h2 := log_le (Nat.lt_of_le_of_lt h1 hy)
    omega
  refine ⟨rfl, b0, hsh, trivial, rfl, by omega, ?_⟩
  refine loop_range (fun j ρ => ∃ x5 : Slot, ρ = [.val (.d (.int b)), .val (.d (.int s)), .val (.d (.tuple [.int i, .int y])), .val (.d (.str (mkS ((figL y b.toNat).take j)))), .val (.d (.int (y - y / 2 ^ b.toNat * 2 ^ b.toNat))), x5]) ⟨.un, rfl⟩ ?_ ?_
  · rintro j ρ N hj ⟨x5, rfl⟩ hN
    have hb : j < b.toNat := hj
    have e1 : (b - 1 - (0 + (j : Int))).toNat = b.toNat - 1 - j := by omega
    have lit : (figL y b.toNat)[j]? = some (bitC ((y - y / 2 ^ b.toNat * 2 ^ b.toNat) / 2 ^ (b - 1 - (0 + (j : Int))).toNat)) := by
      rw [e1, low_bit (by omega)]
      exact figL_get _ _ _ hb
    have fin : ∀ u : Str, u = mkS [bitC ((y - y / 2 ^ b.toNat * 2 ^ b.toNat) / 2 ^ (b - 1 - (0 + (j : Int))).toNat)] → (mkS ((figL y b.toNat).take j)).length + u.length ≤ sizeLine ∧
        N [.val (.d (.int b)), .val (.d (.int s)), .val (.d (.tuple [.int i, .int y])), .val (.d (.str (mkS ((figL y b.toNat).take j) ++ u))), .val (.d (.int (y - y / 2 ^ b.toNat * 2 ^ b.toNat))), .val (.d (.int (0 + (j : Int))))] := fun u hu => by
      refine ⟨?_, hN _ ⟨.val (.d (.int (0 + (j : Int)))), ?_⟩⟩
      · rw [hu, mkS_len, mkS_len, List.length_take, figL_len, sizeLine_eq]
        show min j b.toNat + 1 ≤ _
        omega
      · rw [hu, take_more lit]
    exact ⟨trivial, trivial, show (0 : Int) ≤ b - 1 - (0 + (j : Int)) by omega, trivial, rfl, rfl, if_tf (fun c => fin _ (bit_yes c)) fun c => fin _ (bit_no c)⟩
  · rintro ρ ⟨x5, rfl⟩
    have full : (figL y b.toNat).take b.toNat = figL y b.toNat := List.take_of_length_le (by rw [figL_len] <;> exact Nat.le_refl _)
    refine ⟨by omega, ?_⟩
    refine loop_range (fun j ρ => ∃ x5 : Slot, ρ = [.val (.d (.int b)), .val (.d (.int s)), .val (.d (.tuple [.int i, .int y])), .val (.d (.str (mkS (figL y b.toNat ++ (figL i s.toNat).take j)))), .val (.d (.int (y - y / 2 ^ b.toNat * 2 ^ b.toNat))), x5]) ⟨x5, ?_⟩ ?_ ?_
    · rw [List.take_zero, List.append_nil, full]
    · rintro j ρ N hj ⟨x5, rfl⟩ hN
      have hb : j < s.toNat := hj
      have e1 : (s - 1 - (0 + (j : Int))).toNat = s.toNat - 1 - j := by omega
      have lit : (figL i s.toNat)[j]? = some (bitC (i / 2 ^ (s - 1 - (0 + (j : Int))).toNat)) := by
        rw [e1]
        exact figL_get _ _ _ hb
      have fin : ∀ u : Str, u = mkS [bitC (i / 2 ^ (s - 1 - (0 + (j : Int))).toNat)] → (mkS (figL y b.toNat ++ (figL i s.toNat).take j)).length + u.length ≤ sizeLine ∧
          N [.val (.d (.int b)), .val (.d (.int s)), .val (.d (.tuple [.int i, .int y])), .val (.d (.str (mkS (figL y b.toNat ++ (figL i s.toNat).take j) ++ u))), .val (.d (.int (y - y / 2 ^ b.toNat * 2 ^ b.toNat))), .val (.d (.int (0 + (j : Int))))] := fun u hu => by
        refine ⟨?_, hN _ ⟨.val (.d (.int (0 + (j : Int)))), ?_⟩⟩
        · rw [hu, mkS_len, mkS_len, List.length_append, List.length_take, figL_len, figL_len, sizeLine_eq]
          show b.toNat + min j s.toNat + 1 ≤ _
          omega
        · rw [hu, mkS_app, List.append_assoc, List.take_add_one, lit]
          rfl
      exact ⟨trivial, trivial, show (0 : Int) ≤ s - 1 - (0 + (j : Int)) by omega, trivial, rfl, rfl, if_tf (fun c => fin _ (bit_yes c)) fun c => fin _ (bit_no c)⟩
    · rintro ρ ⟨x5, rfl⟩
      have fs : (figL i s.toNat).take s.toNat = figL i s.toNat := List.take_of_length_le (by rw [figL_len] <;> exact Nat.le_refl _)
      rw [fs]
      exact q
end
end Q47
set_option maxHeartbeats 1000000
namespace Q47
open PySem PySem.Spec
open PyProof.Rows hiding St
open L2 DL
section
variable {Q : Val → Prop} {E : Str → PyData → Prop}
/-! ### the answer, reckoned the law's way -/
def offP (x : PyData) : Bool := match x with
  | .tuple [.str a, .str b] => !inSeq (.str a) [.str "-", .str b]
  | _ => false
theorem match_off : ∀ (ps cs : List Nat), (((ps.zip cs).map fun p => PyData.tuple [.str ⟨#[p.1]⟩, .str ⟨#[p.2]⟩]).filter offP).isEmpty = matchL ps cs
  | [], _ => by simp [matchL]
  | _ :: _, [] => by simp [matchL]
  | p :: ps, c :: cs => by
    rw [List.zip_cons_cons, List.map_cons, List.filter_cons]
    have e : offP (.tuple [.str ⟨#[p]⟩, .str ⟨#[c]⟩]) = !(decide (p = 45) || decide (p = c)) := by
      show (!inSeq (.str ⟨#[p]⟩) [.str "-", .str ⟨#[c]⟩]) = _
      rw [in_pair]
    have ih := match_off ps cs
    show List.isEmpty (if offP (.tuple [.str ⟨#[p]⟩, .str ⟨#[c]⟩]) = true then _ else _) = ((decide (p = 45) || decide (p = c)) && matchL ps cs)
    rw [e]
    by_cases h : (decide (p = 45) || decide (p = c)) = true
    · rw [h, if_neg (by simp), ih, Bool.true_and]
    · rw [Bool.eq_false_iff.mpr h, Bool.false_and]
      rfl
theorem in_ints (d : Int) : ∀ ks : List Int, inSeq (.int d) (ks.map PyData.int) = decide (d ∈ ks)
  | [] => rfl
  | k :: ks => by
    have ih := in_ints d ks
    unfold inSeq at ih ⊢
    rw [List.map_cons, List.any_cons, ih]
    have e : PyData.eqv (.int k) (.int d) = decide (k = d) := rfl
    rw [e]
    by_cases h : k = d
    · subst h; simp
    · have h2 : d ≠ k := fun z => h z.symm
      simp [h, h2]
theorem flat_ints (ks : List Int) : (ks.map PyData.int).all flatP = true := by
  rw [List.all_map]
  exact List.all_eq_true.mpr fun _ _ => rfl
theorem hits_more {ts : List (Str × Int)} {j : Nat} {r : Str × Int} {w : List Nat} (e : ts[j]? = some r) :
    hits ((ts.take (j + 1)).map rawT) w = hits ((ts.take j).map rawT) w ++ (if matchL r.1.cps.toList w = true then [r.2] else []) := by
  have et : (ts.take (j + 1)).map rawT = (ts.take j).map rawT ++ [rawT r] := by
    rw [List.take_add_one, e, List.map_append]
    rfl
  rw [et]
  unfold hits
  rw [List.filter_append, List.map_append]
  congr 1
  by_cases c : matchL r.1.cps.toList w = true
  · rw [if_pos c, List.filter_cons, if_pos (show matchL (rawT r).1 _ = true from c)]
    rfl
  · rw [if_neg c, List.filter_cons, if_neg (show ¬ matchL (rawT r).1 _ = true from c)]
    rfl
theorem due_ok {m : Mac} {b i y : Int} {ts : List (Str × Int)} (h0 : 0 ≤ b) (h1 : b ≤ 1000) (h2 : 0 ≤ m.s) (h3 : m.s ≤ 60) (ht : ts.length ≤ 10000) (hy : y.natAbs < 2 ^ 200) (q : Q (.d (ansOf ts (wordL b m.s i y)))) :
    S__law_due [.d m.enc, .d (encL b ts), .d (.tuple [.int i, .int y])] Q E := by
  refine ⟨rfl, rfl, bits_ok h0 h1 h2 (by omega) hy ⟨Nat.zero_le _, rfl, ?_⟩⟩
  refine loop_at (fun j ρ => ∃ (x5 x6 : Slot) (ks : List Int), ρ = [.val (.d m.enc), .val (.d (encL b ts)), .val (.d (.tuple [.int i, .int y])), .val (.d (.str (mkS (wordL b m.s i y)))), .own (ks.map .int), x5, x6, .un, .un] ∧
    ks.Nodup ∧ ks.length ≤ j ∧ ∀ d, d ∈ ks ↔ d ∈ hits ((ts.take j).map rawT) (wordL b m.s i y)) ⟨.un, .un, [], rfl, List.nodup_nil, Nat.le_refl _, fun d => by simp [hits]⟩ ?_ ?_
  · rintro j x ρ N hx ⟨x5, x6, ks, rfl, nd, hlen, hm⟩ hN
    rw [List.getElem?_map] at hx
    cases e : ts[j]? with
    | none => rw [e] at hx; cases hx
    | some r =>
      rw [e] at hx
      cases hx
      have hj : j < ts.length := (List.getElem?_eq_some_iff.mp e).1
      refine ⟨rfl, ?_⟩
      refine (show compL _ (zipD (signD r.1) (signD (mkS (wordL b m.s i y)))) [] _ from ?_)
      have ez : zipD (signD r.1) (signD (mkS (wordL b m.s i y))) = (r.1.cps.toList.zip (wordL b m.s i y)).map fun p => .tuple [.str ⟨#[p.1]⟩, .str ⟨#[p.2]⟩] := zip_signs _ _
      rw [ez]
      refine comp_filter offP (fun _ => .int 1) (fun x kk hx h1 h2 => ?_) ?_
      · obtain ⟨p, hp, rfl⟩ := List.mem_map.mp hx
        refine ⟨rfl, sz (n := 2), rfl, rfl, if_tf (fun c => h1 c) fun c => h2 c⟩
      · have es : ((((r.1.cps.toList.zip (wordL b m.s i y)).map fun p => PyData.tuple [.str ⟨#[p.1]⟩, .str ⟨#[p.2]⟩]).filter offP).map fun _ => PyData.int 1) =
            ((((r.1.cps.toList.zip (wordL b m.s i y)).map fun p => PyData.tuple [.str ⟨#[p.1]⟩, .str ⟨#[p.2]⟩]).filter offP).map fun _ => (1 : Int)).map PyData.int := by
          rw [List.map_map]
          rfl
        have ee : PyData.eqv (.list ((((r.1.cps.toList.zip (wordL b m.s i y)).map fun p => PyData.tuple [.str ⟨#[p.1]⟩, .str ⟨#[p.2]⟩]).filter offP).map fun _ => PyData.int 1)) (.list []) = matchL r.1.cps.toList (wordL b m.s i y) := by
          rw [← match_off]
          cases ((r.1.cps.toList.zip (wordL b m.s i y)).map fun p => PyData.tuple [.str ⟨#[p.1]⟩, .str ⟨#[p.2]⟩]).filter offP <;> rfl
        refine ⟨Nat.zero_le _, by rw [es]; exact (shaped_ints _).2, (shaped_ints []).2, ?_⟩
        show if PyData.eqv (.list _) (.list []) = true then _ else _
        rw [ee]
        have keepN : (∀ d, d ∈ ks ↔ d ∈ hits ((ts.take (j + 1)).map rawT) (wordL b m.s i y)) → N [.val (.d m.enc), .val (.d (encL b ts)), .val (.d (.tuple [.int i, .int y])), .val (.d (.str (mkS (wordL b m.s i y)))), .own (ks.map .int), .val (.d (.str r.1)), .val (.d (.int r.2)), .un, .un] := fun h =>
          hN _ ⟨_, _, ks, rfl, nd, by omega, h⟩
        refine if_tf (fun c => ⟨rfl, flat_ints ks, ?_⟩) fun c => keepN fun d => by rw [hits_more e, if_neg (by rw [c]; simp), List.append_nil]; exact hm d
        show if (!inSeq (.int r.2) (ks.map .int)) = true then _ else _
        rw [in_ints]
        by_cases hd : r.2 ∈ ks
        · rw [decide_eq_true hd]
          refine keepN fun d => ?_
          rw [hits_more e, if_pos c, List.mem_append, ← hm d]
          exact ⟨.inl, fun z => z.elim id fun z => by rw [List.mem_singleton.mp z]; exact hd⟩
        · rw [decide_eq_false hd]
          refine ⟨by rw [List.length_map, sizeLine_eq]; omega, hN _ ⟨.val (.d (.str r.1)), .val (.d (.int r.2)), ks ++ [r.2], by rw [List.map_append]; rfl, ?_, by rw [List.length_append]; exact Nat.succ_le_succ hlen, fun d => ?_⟩⟩
          · rw [List.nodup_append]
            exact ⟨nd, by simp, fun a ha b hb => by rw [List.mem_singleton.mp hb]; exact fun z => hd (z ▸ ha)⟩
          · rw [hits_more e, if_pos c, List.mem_append, List.mem_append, hm d]
  · rintro ρ ⟨x5, x6, ks, rfl, nd, hlen, hm⟩
    rw [List.length_map, List.take_length] at hm
    have ea : ansOf ts (wordL b m.s i y) = soleOf ks := one_sole nd hm
    rw [ea] at q
    refine ⟨rfl, rfl, ?_⟩
    show if PyData.eqv (.int ((ks.map PyData.int).length : Int)) (.int 1) = true then _ else _
    match ks with
    | [] => exact q
    | [k] => exact if_t rfl q
    | k :: k2 :: r =>
      refine if_f ?_ q
      show decide ((((k :: k2 :: r).map PyData.int).length : Int) = 1) = false
      rw [decide_eq_false]
      rw [List.length_map, List.length_cons, List.length_cons]
      omega
end
end Q47
set_option maxHeartbeats 1000000
namespace Q47
open PySem PySem.Spec
open PyProof.Rows hiding St
open L2 DL
section
variable {Q : Val → Prop} {E : Str → PyData → Prop}
/-! ### cells -/
def CellOk (m : Mac) (x : PyData) : Prop := ∃ i y : Int, x = .tuple [.int i, .int y] ∧ 0 ≤ i ∧ i < 2 ^ m.s.toNat ∧ y.natAbs < 2 ^ 150
theorem shl_ok {i b : Int} (h0 : 0 ≤ b) (h1 : b ≤ 1000) (h2 : i.natAbs < 2 ^ 300) : ShlC i b := ⟨h0, by have := log_le h2; omega⟩
theorem pow_b {b : Int} (h0 : 0 ≤ b) (h1 : b ≤ 12) : (1 : Int) ≤ 2 ^ b.toNat ∧ (2 : Int) ^ b.toNat ≤ 4096 := by
  have : b.toNat ≤ 12 := by omega
  have h : ∀ n : Nat, n ≤ 12 → (1 : Int) ≤ 2 ^ n ∧ (2 : Int) ^ n ≤ 4096 := by decide
  exact h _ this
theorem cells_ok {m : Mac} (hm : m.Ok) (h4 : m.s ≤ 4) {b : Int} (b1 : 1 ≤ b) (b12 : b ≤ 12) (q : ∀ cs : List PyData, (∀ c ∈ cs, CellOk m c) → Q (.d (.list cs))) :
    S__law_cells [.deck "left", .d m.enc, .d (.int b)] Q E := by
  have hp := pow_b (b := b) (by omega) b12
  have hp1 := pow_b (b := b - 1) (by omega) (by omega)
  have hs0 := hm.s0
  have hs := pow_b (b := m.s) (by omega) (by omega)
  refine ⟨rfl, Nat.zero_le _, by omega, ?_⟩
  refine loop_range (fun j ρ => ∃ (x4 x5 : Slot) (cs : List PyData), ρ = [.val (.deck "left"), .val (.d m.enc), .val (.d (.int b)), .own cs, x4, x5] ∧ cs.length = j ∧ ∀ c ∈ cs, CellOk m c) ⟨.un, .un, [], rfl, rfl, fun c h => by cases h⟩ ?_ ?_
  · rintro j ρ N hj ⟨x4, x5, cs, rfl, hl, hc⟩ hN
    have fin : ∀ y : Int, y.natAbs < 2 ^ 150 → ∀ i : Int, 0 ≤ i → i < 1 * 2 ^ m.s.toNat → N [.val (.deck "left"), .val (.d m.enc), .val (.d (.int b)), .own (cs ++ [.tuple [.int i, .int y]]), .val (.d (.int (0 + (j : Int)))), .val (.d (.int y))] := fun y hy i i0 i1 =>
      hN _ ⟨_, _, _, rfl, by rw [List.length_append, hl]; rfl, fun c h => by
        rcases List.mem_append.mp h with h | h
        · exact hc c h
        · rw [List.mem_singleton.mp h]
          exact ⟨i, y, rfl, i0, by omega, hy⟩⟩
    refine ⟨shl_ok (by omega) (by omega) (by decide), rfl, draw_ok (by omega) (by omega) fun r r0 r1 => ?_⟩
    refine ⟨shl_ok (by omega) (by omega) (by decide), trivial, trivial, if_dec (fun c => ?_) fun c => ?_⟩
    · refine ⟨shl_ok (by omega) (by omega) (by decide), trivial, trivial, shl_ok (by omega) (by omega) (by decide), trivial, shl_ok (by omega) (by omega) (by decide), ⟨by decide, by decide, by decide⟩, ⟨by decide, by decide, by decide⟩, trivial, sz (n := 7), rfl,
        pick_ok (by simp) (by show (7 : Nat) ≤ 100000; decide) fun x hx => ?_⟩
      have hx2 : ∃ y : Int, x = .int y ∧ y.natAbs < 2 ^ 150 := by
        have h30 : (10 : Int) ^ (30 : Int).toNat = 1000000000000000000000000000000 := by decide
        simp only [List.mem_cons, List.not_mem_nil, or_false] at hx
        rcases hx with rfl | rfl | rfl | rfl | rfl | rfl | rfl
        · exact ⟨_, rfl, by decide⟩
        · exact ⟨_, rfl, by decide⟩
        · exact ⟨_, rfl, by omega⟩
        · exact ⟨_, rfl, by omega⟩
        · exact ⟨_, rfl, by omega⟩
        · exact ⟨_, rfl, by omega⟩
        · exact ⟨_, rfl, by omega⟩
      obtain ⟨y, rfl, hy⟩ := hx2
      exact ⟨shl_ok (by omega) (by omega) (by decide), rfl, draw_ok (by omega) (by omega) fun i i0 i1 => ⟨sz (n := 2), by rw [hl, sizeLine_eq]; omega, fin y hy i i0 i1⟩⟩
    · exact ⟨shl_ok (by omega) (by omega) (by decide), rfl, draw_ok (by omega) (by omega) fun i i0 i1 => ⟨sz (n := 2), by rw [hl, sizeLine_eq]; omega, fin _ (by omega) i i0 i1⟩⟩
  · rintro ρ ⟨x4, x5, cs, rfl, hl, hc⟩
    exact q cs hc
end
end Q47
set_option maxHeartbeats 1000000
namespace Q47
open PySem PySem.Spec
open PyProof.Rows hiding St
open L2 DL
/-! ### the law -/
theorem figL_add : ∀ (c : Nat) (n q : Int), figL (n + 2 ^ c * q) c = figL n c
  | 0, _, _ => rfl
  | c + 1, n, q => by
    unfold figL
    have e : n + 2 ^ (c + 1) * q = n + 2 * (2 ^ c * q) := by rw [Int.pow_succ', Int.mul_assoc]
    have e1 : (n + 2 ^ (c + 1) * q) / 2 = n / 2 + 2 ^ c * q := by rw [e]; omega
    have e2 : bitC (n + 2 ^ (c + 1) * q) = bitC n := by
      unfold bitC
      rw [e, show (n + 2 * (2 ^ c * q)) % 2 = n % 2 by omega]
    rw [e1, figL_add c, e2]
theorem word_add {b s i y : Int} : wordL b s i (y + 1 * 2 ^ b.toNat) = wordL b s i y := by
  unfold wordL
  have := figL_add b.toNat y 1
  rw [Int.mul_one] at this
  rw [Int.one_mul, this]
theorem repr_int {d : Int} (h : d.natAbs < 2 ^ 200) : reprOf false (.int d) = some (.str (toString d)) := by
  have h2 : d.natAbs.log2 < 1920 := by have := log_le h; omega
  unfold reprOf
  rw [if_pos]
  · rfl
  · have e1 : PyData.showable (.int d) = true := by simp only [PyData.showable]; exact decide_eq_true h2
    have e2 : (PyData.shown (.int d)).length ≤ sizeLine := by simp only [PyData.shown]; exact int_text_fits h2
    have e3 : (PyData.int d).depth ≤ 100 := by simp only [PyData.depth]; omega
    have e4 : PyData.hasDict (.int d) = false := by simp only [PyData.hasDict]
    rw [e1, decide_eq_true e2, decide_eq_true e3, e4]
    rfl
theorem repr_none : ∃ t, reprOf false .none = some (.str t) := by
  unfold reprOf
  refine ⟨_, if_pos ?_⟩
  decide +kernel
theorem one_in {l : List Int} : oneOf l = .none ∨ ∃ d ∈ l, oneOf l = .int d := by
  cases l with
  | nil => exact .inl rfl
  | cons d r =>
    by_cases h : r.all (fun e => decide (e = d)) = true
    · refine .inr ⟨d, List.mem_cons_self, ?_⟩
      show (if r.all (fun e => decide (e = d)) = true then PyData.int d else .none) = _
      rw [if_pos h]
    · refine .inl ?_
      show (if r.all (fun e => decide (e = d)) = true then PyData.int d else .none) = _
      rw [if_neg h]
theorem ans_repr {m : Mac} {b : Int} {ts : List (Str × Int)} (hm : m.Ok) (hl : LogOk m b ts) (w : List Nat) : ∃ t, reprOf false (ansOf ts w) = some (.str t) := by
  have hsg := hm.sch.sg
  rcases one_in (l := hits (ts.map rawT) w) with h | ⟨d, hd, h⟩
  · unfold ansOf
    rw [h]
    exact repr_none
  · unfold ansOf
    rw [h]
    unfold hits at hd
    obtain ⟨r, hr, rfl⟩ := List.mem_map.mp hd
    obtain ⟨r2, hr2, rfl⟩ := List.mem_map.mp (List.mem_filter.mp hr).1
    have := (hl.tm r2 hr2).dg
    refine ⟨_, repr_int ?_⟩
    have : (rawT r2).2 = r2.2 := rfl
    rw [this]
    have h3 : r2.2.natAbs < 8 := by omega
    exact Nat.lt_of_lt_of_le h3 (by decide)
theorem terms_of {ts : List (Str × Int)} : ∀ {ys : List PyData}, (∀ y ∈ ys, y ∈ ts.map encT) → ∃ us : List (Str × Int), ys = us.map encT ∧ ∀ u ∈ us, u ∈ ts
  | [], _ => ⟨[], rfl, fun d h => by cases h⟩
  | y :: ys, h => by
    obtain ⟨u, hu, rfl⟩ := List.mem_map.mp (h y List.mem_cons_self)
    obtain ⟨us, rfl, hus⟩ := terms_of fun y hy => h y (List.mem_cons_of_mem _ hy)
    exact ⟨u :: us, rfl, fun x hx => by
      rcases List.mem_cons.mp hx with rfl | hx
      · exact hu
      · exact hus x hx⟩
theorem ans_more {us ts : List (Str × Int)} (h : ∀ u ∈ us, u ∈ ts) (w : List Nat) : ansOf (us ++ (ts ++ (ts ++ []))) w = ansOf ts w := by
  unfold ansOf hits
  refine one_congr fun d => ?_
  simp only [List.mem_map, List.mem_filter, List.mem_append, List.append_nil]
  constructor
  · rintro ⟨r, ⟨⟨u, hu, rfl⟩, c⟩, rfl⟩
    rcases hu with hu | hu | hu
    · exact ⟨_, ⟨⟨u, h u hu, rfl⟩, c⟩, rfl⟩
    · exact ⟨_, ⟨⟨u, hu, rfl⟩, c⟩, rfl⟩
    · exact ⟨_, ⟨⟨u, hu, rfl⟩, c⟩, rfl⟩
  · rintro ⟨r, ⟨⟨u, hu, rfl⟩, c⟩, rfl⟩
    exact ⟨_, ⟨⟨u, .inr (.inl hu), rfl⟩, c⟩, rfl⟩
theorem pure_law : t_law { nx := fun _ => False, rt := fun v _ => v = .d (.bool true), bk := fun _ => False, ct := fun _ => False, ex := fun _ _ _ => False } ((List.replicate 9 .un).set 1 (.val (.deck "left"))) := by
  refine ⟨by decide, ?_⟩
  refine loop_range (fun j ρ => ∃ x2 x3 x4 x5 x6 x7 x8 : Slot, ρ = [.un, .val (.deck "left"), x2, x3, x4, x5, x6, x7, x8]) ⟨.un, .un, .un, .un, .un, .un, .un, rfl⟩ ?_ ?_
  · rintro j ρ N hj ⟨x2, x3, x4, x5, x6, x7, x8, rfl⟩ hN
    refine ⟨rfl, anymachine_ok fun m hm h4 => ⟨rfl, anylogic_ok hm h4 fun b ts hl b12 h30 => ⟨rfl, ?_⟩⟩⟩
    refine ⟨rfl, mixed_ok (by rw [List.length_map]; omega) fun ys hys => ?_⟩
    have hlen : ys.length = ts.length := by rw [hys.length_eq, List.length_map]
    obtain ⟨us, rfl, hus⟩ := terms_of (ts := ts) fun y hy => hys.mem_iff.mp hy
    rw [List.length_map] at hlen
    refine ⟨by decide, ?_, ?_, sz (n := 2), rfl, cells_ok hm h4 hl.b1 b12 fun cs hcs => ?_⟩
    · show (ts.map encT).length * 2 ≤ sizeLine
      rw [List.length_map, sizeLine_eq]; omega
    · show (us.map encT).length + (ts.map encT ++ (ts.map encT ++ [])).length ≤ sizeLine
      rw [List.length_append, List.length_append, List.length_map, List.length_map, sizeLine_eq]
      show us.length + (ts.length + (ts.length + 0)) ≤ _
      omega
    have eo : PyData.tuple [.int b, .tuple (us.map encT ++ (ts.map encT ++ (ts.map encT ++ [])))] = encL b (us ++ (ts ++ (ts ++ []))) := by
      unfold encL
      rw [List.map_append, List.map_append, List.map_append]
      rfl
    have ho : LogOk m b (us ++ (ts ++ (ts ++ []))) := ⟨hl.b1, hl.bm, fun r hr => hl.tm r (by
      rw [List.append_nil] at hr
      rcases List.mem_append.mp hr with hr | hr
      · exact hus r hr
      · exact (List.mem_append.mp hr).elim id id)⟩
    have b0 := hl.b1
    refine loop_at (fun j2 ρ => ∃ x7 x8 : Slot, ρ = [.un, .val (.deck "left"), .val (.d (.int (0 + (j : Int)))), .val (.d m.enc), .val (.d (.int b)), .val (.d (.tuple (ts.map encT))), .val (.d (.tuple [.int b, .tuple (us.map encT ++ (ts.map encT ++ (ts.map encT ++ [])))])), x7, x8]) ⟨x7, x8, rfl⟩ ?_ ?_
    · rintro j2 c ρ N2 hc ⟨x7, x8, rfl⟩ hN2
      obtain ⟨i, y, rfl, i0, i1, hy⟩ := hcs c (List.mem_of_getElem? hc)
      have hy2 : y.natAbs < 2 ^ 200 := Nat.lt_trans hy (by decide)
      obtain ⟨t, ht⟩ := ans_repr hm hl (wordL b m.s i y)
      refine ⟨sz (n := 2), rfl, due_ok (by omega) (by omega) hm.s0 hm.s60 (by omega) hy2 ?_⟩
      refine ⟨sz (n := 2), rfl, output_ok hm hl (by omega) i0 i1 ⟨rfl, same_ok ht ?_⟩⟩
      have ho2 : (us ++ (ts ++ (ts ++ []))).length ≤ 10000 := by
        rw [List.length_append, List.length_append, List.length_append]
        show us.length + (ts.length + (ts.length + 0)) ≤ _
        omega
      have back : N2 [.un, .val (.deck "left"), .val (.d (.int (0 + (j : Int)))), .val (.d m.enc), .val (.d (.int b)), .val (.d (.tuple (ts.map encT))), .val (.d (.tuple [.int b, .tuple (us.map encT ++ (ts.map encT ++ (ts.map encT ++ [])))])), .val (.d (.tuple [.int i, .int y])), .val (.d (ansOf ts (wordL b m.s i y)))] :=
        hN2 _ ⟨_, _, rfl⟩
      have out2 : ∀ {R : Val → Prop} {E2 : Str → PyData → Prop}, R (.d (ansOf ts (wordL b m.s i y))) → S_output [.d m.enc, .d (.tuple [.int b, .tuple (us.map encT ++ (ts.map encT ++ (ts.map encT ++ [])))]), .d (.tuple [.int i, .int y])] R E2 := fun {R E2} r => by
        rw [eo]
        exact output_ok hm ho ho2 i0 i1 (by rw [ans_more hus]; exact r)
      have out3 : ∀ {R : Val → Prop} {E2 : Str → PyData → Prop}, R (.d (ansOf ts (wordL b m.s i y))) → S_output [.d m.enc, .d (encL b ts), .d (.tuple [.int i, .int (y + 1 * 2 ^ b.toNat)])] R E2 := fun {R E2} r =>
        output_ok hm hl (by omega) i0 i1 (by rw [word_add]; exact r)
      have sb : ShlC 1 b := shl_ok (by omega) (by omega) (by decide)
      refine (fun tail => ⟨rfl, rfl, if_tf (fun _ => ⟨⟨rfl, rfl⟩, out2 ⟨rfl, same_ok ht tail⟩⟩) fun _ => tail⟩) ?_
      exact ⟨rfl, rfl, if_tf (fun _ => ⟨sz (n := 2), sb, sz (n := 2), rfl, out3 ⟨rfl, same_ok ht back⟩⟩) fun _ => back⟩
    · rintro ρ ⟨x7, x8, rfl⟩
      exact hN _ ⟨_, _, _, _, _, _, _, rfl⟩
  · rintro ρ ⟨x2, x3, x4, x5, x6, x7, x8, rfl⟩
    rfl
end Q47
set_option maxHeartbeats 1000000
namespace Q47
open PySem PySem.Spec
open PyProof.Rows hiding St
open L2 DL
theorem all_mk {l : PySem.W.OpenLaw} {w : World} {K : PySem.W.Frag} {h : Heap} {mg : Str → Option Value} {fa : Addr} (X : K.In h) (G : h.Ns mainGlobals mg) (hfa : mg "law" = some (.ref fa))
    {f0 : Addr} {od0 an0 : Option Addr} {sl0 : Array (Option Value)} {oc0 kV0 dc0 pm0 cd0 ct0 : Value}
    {f1 : Addr} {od1 an1 : Option Addr} {sl1 : Array (Option Value)} {oc1 kV1 dc1 pm1 cd1 ct1 : Value}
    {f2 : Addr} {od2 an2 : Option Addr} {sl2 : Array (Option Value)} {oc2 kV2 dc2 pm2 cd2 ct2 : Value}
    {f3 : Addr} {od3 an3 : Option Addr} {sl3 : Array (Option Value)} {oc3 kV3 dc3 pm3 cd3 ct3 : Value}
    {f4 : Addr} {od4 an4 : Option Addr} {sl4 : Array (Option Value)} {oc4 kV4 dc4 pm4 cd4 ct4 : Value}
    {f5 : Addr} {od5 an5 : Option Addr} {sl5 : Array (Option Value)} {oc5 kV5 dc5 pm5 cd5 ct5 : Value}
    {f6 : Addr} {od6 an6 : Option Addr} {sl6 : Array (Option Value)} {oc6 kV6 dc6 pm6 cd6 ct6 : Value}
    {f7 : Addr} {od7 an7 : Option Addr} {sl7 : Array (Option Value)} {oc7 kV7 dc7 pm7 cd7 ct7 : Value}
    {f8 : Addr} {od8 an8 : Option Addr} {sl8 : Array (Option Value)} {oc8 kV8 dc8 pm8 cd8 ct8 : Value}
    {f9 : Addr} {od9 an9 : Option Addr} {sl9 : Array (Option Value)} {oc9 kV9 dc9 pm9 cd9 ct9 : Value}
    {f10 : Addr} {od10 an10 : Option Addr} {sl10 : Array (Option Value)} {oc10 kV10 dc10 pm10 cd10 ct10 : Value}
    {f11 : Addr} {od11 an11 : Option Addr} {sl11 : Array (Option Value)} {oc11 kV11 dc11 pm11 cd11 ct11 : Value}
    {f12 : Addr} {od12 an12 : Option Addr} {sl12 : Array (Option Value)} {oc12 kV12 dc12 pm12 cd12 ct12 : Value}
    {f13 : Addr} {od13 an13 : Option Addr} {sl13 : Array (Option Value)} {oc13 kV13 dc13 pm13 cd13 ct13 : Value}
    {f14 : Addr} {od14 an14 : Option Addr} {sl14 : Array (Option Value)} {oc14 kV14 dc14 pm14 cd14 ct14 : Value}
    {f15 : Addr} {od15 an15 : Option Addr} {sl15 : Array (Option Value)} {oc15 kV15 dc15 pm15 cd15 ct15 : Value}
    {f16 : Addr} {od16 an16 : Option Addr} {sl16 : Array (Option Value)} {oc16 kV16 dc16 pm16 cd16 ct16 : Value}
    {f17 : Addr} {od17 an17 : Option Addr} {sl17 : Array (Option Value)} {oc17 kV17 dc17 pm17 cd17 ct17 : Value}
    {f18 : Addr} {od18 an18 : Option Addr} {sl18 : Array (Option Value)} {oc18 kV18 dc18 pm18 cd18 ct18 : Value}
    {f19 : Addr} {od19 an19 : Option Addr} {sl19 : Array (Option Value)} {oc19 kV19 dc19 pm19 cd19 ct19 : Value}
    {f20 : Addr} {od20 an20 : Option Addr} {sl20 : Array (Option Value)} {oc20 kV20 dc20 pm20 cd20 ct20 : Value}
    {f21 : Addr} {od21 an21 : Option Addr} {sl21 : Array (Option Value)} {oc21 kV21 dc21 pm21 cd21 ct21 : Value}
    {f22 : Addr} {od22 an22 : Option Addr} {sl22 : Array (Option Value)} {oc22 kV22 dc22 pm22 cd22 ct22 : Value}
    {f23 : Addr} {od23 an23 : Option Addr} {sl23 : Array (Option Value)} {oc23 kV23 dc23 pm23 cd23 ct23 : Value}
    {f24 : Addr} {od24 an24 : Option Addr} {sl24 : Array (Option Value)} {oc24 kV24 dc24 pm24 cd24 ct24 : Value}
    {f25 : Addr} {od25 an25 : Option Addr} {sl25 : Array (Option Value)} {oc25 kV25 dc25 pm25 cd25 ct25 : Value}
    {f26 : Addr} {od26 an26 : Option Addr} {sl26 : Array (Option Value)} {oc26 kV26 dc26 pm26 cd26 ct26 : Value}
    {f27 : Addr} {od27 an27 : Option Addr} {sl27 : Array (Option Value)} {oc27 kV27 dc27 pm27 cd27 ct27 : Value}
    {f28 : Addr} {od28 an28 : Option Addr} {sl28 : Array (Option Value)} {oc28 kV28 dc28 pm28 cd28 ct28 : Value}
    {f29 : Addr} {od29 an29 : Option Addr} {sl29 : Array (Option Value)} {oc29 kV29 dc29 pm29 cd29 ct29 : Value}
    {f30 : Addr} {od30 an30 : Option Addr} {sl30 : Array (Option Value)} {oc30 kV30 dc30 pm30 cd30 ct30 : Value}
    {f31 : Addr} {od31 an31 : Option Addr} {sl31 : Array (Option Value)} {oc31 kV31 dc31 pm31 cd31 ct31 : Value}
    {f32 : Addr} {od32 an32 : Option Addr} {sl32 : Array (Option Value)} {oc32 kV32 dc32 pm32 cd32 ct32 : Value}
    {fKINDS : Addr} {odKINDS : Option Addr} {slKINDS : Array (Option Value)} {tKINDS0 tKINDS1 : Tok} {nKINDS : Nat}
    (a0 : PySem.W.nsIn K mainGlobals "_law_deck" = some (some (.ref f0))) (l0 : K.lookup f0 = some ⟨oc0, od0, .func (PySem.W.fnOf "_law_deck" "_law_deck" (defArgs s__law_deck) (defBody s__law_deck) (defScope s__law_deck) .none kV0 dc0 pm0 an0 cd0 ct0), sl0⟩) (c0 : PySem.W.codeIn K cd0 "_law_deck" = true) (k0 : PySem.W.keepIn K (.ref f0) = true)
    (a1 : PySem.W.nsIn K mainGlobals "two" = some (some (.ref f1))) (l1 : K.lookup f1 = some ⟨oc1, od1, .func (PySem.W.fnOf "two" "two" (defArgs s_two) (defBody s_two) (defScope s_two) .none kV1 dc1 pm1 an1 cd1 ct1), sl1⟩) (c1 : PySem.W.codeIn K cd1 "two" = true) (k1 : PySem.W.keepIn K (.ref f1) = true)
    (a2 : PySem.W.nsIn K mainGlobals "is_integer" = some (some (.ref f2))) (l2 : K.lookup f2 = some ⟨oc2, od2, .func (PySem.W.fnOf "is_integer" "is_integer" (defArgs s_is_integer) (defBody s_is_integer) (defScope s_is_integer) .none kV2 dc2 pm2 an2 cd2 ct2), sl2⟩) (c2 : PySem.W.codeIn K cd2 "is_integer" = true) (k2 : PySem.W.keepIn K (.ref f2) = true)
    (a3 : PySem.W.nsIn K mainGlobals "is_word_of" = some (some (.ref f3))) (l3 : K.lookup f3 = some ⟨oc3, od3, .func (PySem.W.fnOf "is_word_of" "is_word_of" (defArgs s_is_word_of) (defBody s_is_word_of) (defScope s_is_word_of) .none kV3 dc3 pm3 an3 cd3 ct3), sl3⟩) (c3 : PySem.W.codeIn K cd3 "is_word_of" = true) (k3 : PySem.W.keepIn K (.ref f3) = true)
    (a4 : PySem.W.nsIn K mainGlobals "is_tuple" = some (some (.ref f4))) (l4 : K.lookup f4 = some ⟨oc4, od4, .func (PySem.W.fnOf "is_tuple" "is_tuple" (defArgs s_is_tuple) (defBody s_is_tuple) (defScope s_is_tuple) .none kV4 dc4 pm4 an4 cd4 ct4), sl4⟩) (c4 : PySem.W.codeIn K cd4 "is_tuple" = true) (k4 : PySem.W.keepIn K (.ref f4) = true)
    (a5 : PySem.W.nsIn K mainGlobals "figures" = some (some (.ref f5))) (l5 : K.lookup f5 = some ⟨oc5, od5, .func (PySem.W.fnOf "figures" "figures" (defArgs s_figures) (defBody s_figures) (defScope s_figures) .none kV5 dc5 pm5 an5 cd5 ct5), sl5⟩) (c5 : PySem.W.codeIn K cd5 "figures" = true) (k5 : PySem.W.keepIn K (.ref f5) = true)
    (a6 : PySem.W.nsIn K mainGlobals "does_match" = some (some (.ref f6))) (l6 : K.lookup f6 = some ⟨oc6, od6, .func (PySem.W.fnOf "does_match" "does_match" (defArgs s_does_match) (defBody s_does_match) (defScope s_does_match) .none kV6 dc6 pm6 an6 cd6 ct6), sl6⟩) (c6 : PySem.W.codeIn K cd6 "does_match" = true) (k6 : PySem.W.keepIn K (.ref f6) = true)
    (a7 : PySem.W.nsIn K mainGlobals "_law_draw" = some (some (.ref f7))) (l7 : K.lookup f7 = some ⟨oc7, od7, .func (PySem.W.fnOf "_law_draw" "_law_draw" (defArgs s__law_draw) (defBody s__law_draw) (defScope s__law_draw) .none kV7 dc7 pm7 an7 cd7 ct7), sl7⟩) (c7 : PySem.W.codeIn K cd7 "_law_draw" = true) (k7 : PySem.W.keepIn K (.ref f7) = true)
    (a8 : PySem.W.nsIn K mainGlobals "_law_same" = some (some (.ref f8))) (l8 : K.lookup f8 = some ⟨oc8, od8, .func (PySem.W.fnOf "_law_same" "_law_same" (defArgs s__law_same) (defBody s__law_same) (defScope s__law_same) .none kV8 dc8 pm8 an8 cd8 ct8), sl8⟩) (c8 : PySem.W.codeIn K cd8 "_law_same" = true) (k8 : PySem.W.keepIn K (.ref f8) = true)
    (a9 : PySem.W.nsIn K mainGlobals "_law_bits" = some (some (.ref f9))) (l9 : K.lookup f9 = some ⟨oc9, od9, .func (PySem.W.fnOf "_law_bits" "_law_bits" (defArgs s__law_bits) (defBody s__law_bits) (defScope s__law_bits) .none kV9 dc9 pm9 an9 cd9 ct9), sl9⟩) (c9 : PySem.W.codeIn K cd9 "_law_bits" = true) (k9 : PySem.W.keepIn K (.ref f9) = true)
    (a10 : PySem.W.nsIn K mainGlobals "is_from" = some (some (.ref f10))) (l10 : K.lookup f10 = some ⟨oc10, od10, .func (PySem.W.fnOf "is_from" "is_from" (defArgs s_is_from) (defBody s_is_from) (defScope s_is_from) .none kV10 dc10 pm10 an10 cd10 ct10), sl10⟩) (c10 : PySem.W.codeIn K cd10 "is_from" = true) (k10 : PySem.W.keepIn K (.ref f10) = true)
    (a11 : PySem.W.nsIn K mainGlobals "is_scheme_value" = some (some (.ref f11))) (l11 : K.lookup f11 = some ⟨oc11, od11, .func (PySem.W.fnOf "is_scheme_value" "is_scheme_value" (defArgs s_is_scheme_value) (defBody s_is_scheme_value) (defScope s_is_scheme_value) .none kV11 dc11 pm11 an11 cd11 ct11), sl11⟩) (c11 : PySem.W.codeIn K cd11 "is_scheme_value" = true) (k11 : PySem.W.keepIn K (.ref f11) = true)
    (a12 : PySem.W.nsIn K mainGlobals "is_digit" = some (some (.ref f12))) (l12 : K.lookup f12 = some ⟨oc12, od12, .func (PySem.W.fnOf "is_digit" "is_digit" (defArgs s_is_digit) (defBody s_is_digit) (defScope s_is_digit) .none kV12 dc12 pm12 an12 cd12 ct12), sl12⟩) (c12 : PySem.W.codeIn K cd12 "is_digit" = true) (k12 : PySem.W.keepIn K (.ref f12) = true)
    (a13 : PySem.W.nsIn K mainGlobals "is_cell" = some (some (.ref f13))) (l13 : K.lookup f13 = some ⟨oc13, od13, .func (PySem.W.fnOf "is_cell" "is_cell" (defArgs s_is_cell) (defBody s_is_cell) (defScope s_is_cell) .none kV13 dc13 pm13 an13 cd13 ct13), sl13⟩) (c13 : PySem.W.codeIn K cd13 "is_cell" = true) (k13 : PySem.W.keepIn K (.ref f13) = true)
    (a14 : PySem.W.nsIn K mainGlobals "word_of" = some (some (.ref f14))) (l14 : K.lookup f14 = some ⟨oc14, od14, .func (PySem.W.fnOf "word_of" "word_of" (defArgs s_word_of) (defBody s_word_of) (defScope s_word_of) .none kV14 dc14 pm14 an14 cd14 ct14), sl14⟩) (c14 : PySem.W.codeIn K cd14 "word_of" = true) (k14 : PySem.W.keepIn K (.ref f14) = true)
    (a15 : PySem.W.nsIn K mainGlobals "_law_pick" = some (some (.ref f15))) (l15 : K.lookup f15 = some ⟨oc15, od15, .func (PySem.W.fnOf "_law_pick" "_law_pick" (defArgs s__law_pick) (defBody s__law_pick) (defScope s__law_pick) .none kV15 dc15 pm15 an15 cd15 ct15), sl15⟩) (c15 : PySem.W.codeIn K cd15 "_law_pick" = true) (k15 : PySem.W.keepIn K (.ref f15) = true)
    (a16 : PySem.W.nsIn K mainGlobals "_law_mixed" = some (some (.ref f16))) (l16 : K.lookup f16 = some ⟨oc16, od16, .func (PySem.W.fnOf "_law_mixed" "_law_mixed" (defArgs s__law_mixed) (defBody s__law_mixed) (defScope s__law_mixed) .none kV16 dc16 pm16 an16 cd16 ct16), sl16⟩) (c16 : PySem.W.codeIn K cd16 "_law_mixed" = true) (k16 : PySem.W.keepIn K (.ref f16) = true)
    (a17 : PySem.W.nsIn K mainGlobals "_law_due" = some (some (.ref f17))) (l17 : K.lookup f17 = some ⟨oc17, od17, .func (PySem.W.fnOf "_law_due" "_law_due" (defArgs s__law_due) (defBody s__law_due) (defScope s__law_due) .none kV17 dc17 pm17 an17 cd17 ct17), sl17⟩) (c17 : PySem.W.codeIn K cd17 "_law_due" = true) (k17 : PySem.W.keepIn K (.ref f17) = true)
    (a18 : PySem.W.nsIn K mainGlobals "is_string" = some (some (.ref f18))) (l18 : K.lookup f18 = some ⟨oc18, od18, .func (PySem.W.fnOf "is_string" "is_string" (defArgs s_is_string) (defBody s_is_string) (defScope s_is_string) .none kV18 dc18 pm18 an18 cd18 ct18), sl18⟩) (c18 : PySem.W.codeIn K cd18 "is_string" = true) (k18 : PySem.W.keepIn K (.ref f18) = true)
    (a19 : PySem.W.nsIn K mainGlobals "is_look_value" = some (some (.ref f19))) (l19 : K.lookup f19 = some ⟨oc19, od19, .func (PySem.W.fnOf "is_look_value" "is_look_value" (defArgs s_is_look_value) (defBody s_is_look_value) (defScope s_is_look_value) .none kV19 dc19 pm19 an19 cd19 ct19), sl19⟩) (c19 : PySem.W.codeIn K cd19 "is_look_value" = true) (k19 : PySem.W.keepIn K (.ref f19) = true)
    (a20 : PySem.W.nsIn K mainGlobals "is_term" = some (some (.ref f20))) (l20 : K.lookup f20 = some ⟨oc20, od20, .func (PySem.W.fnOf "is_term" "is_term" (defArgs s_is_term) (defBody s_is_term) (defScope s_is_term) .none kV20 dc20 pm20 an20 cd20 ct20), sl20⟩) (c20 : PySem.W.codeIn K cd20 "is_term" = true) (k20 : PySem.W.keepIn K (.ref f20) = true)
    (a21 : PySem.W.nsIn K mainGlobals "output_of" = some (some (.ref f21))) (l21 : K.lookup f21 = some ⟨oc21, od21, .func (PySem.W.fnOf "output_of" "output_of" (defArgs s_output_of) (defBody s_output_of) (defScope s_output_of) .none kV21 dc21 pm21 an21 cd21 ct21), sl21⟩) (c21 : PySem.W.codeIn K cd21 "output_of" = true) (k21 : PySem.W.keepIn K (.ref f21) = true)
    (a22 : PySem.W.nsIn K mainGlobals "_law_scheme" = some (some (.ref f22))) (l22 : K.lookup f22 = some ⟨oc22, od22, .func (PySem.W.fnOf "_law_scheme" "_law_scheme" (defArgs s__law_scheme) (defBody s__law_scheme) (defScope s__law_scheme) .none kV22 dc22 pm22 an22 cd22 ct22), sl22⟩) (c22 : PySem.W.codeIn K cd22 "_law_scheme" = true) (k22 : PySem.W.keepIn K (.ref f22) = true)
    (a23 : PySem.W.nsIn K mainGlobals "_law_any_logic" = some (some (.ref f23))) (l23 : K.lookup f23 = some ⟨oc23, od23, .func (PySem.W.fnOf "_law_any_logic" "_law_any_logic" (defArgs s__law_any_logic) (defBody s__law_any_logic) (defScope s__law_any_logic) .none kV23 dc23 pm23 an23 cd23 ct23), sl23⟩) (c23 : PySem.W.codeIn K cd23 "_law_any_logic" = true) (k23 : PySem.W.keepIn K (.ref f23) = true)
    (a24 : PySem.W.nsIn K mainGlobals "_law_cells" = some (some (.ref f24))) (l24 : K.lookup f24 = some ⟨oc24, od24, .func (PySem.W.fnOf "_law_cells" "_law_cells" (defArgs s__law_cells) (defBody s__law_cells) (defScope s__law_cells) .none kV24 dc24 pm24 an24 cd24 ct24), sl24⟩) (c24 : PySem.W.codeIn K cd24 "_law_cells" = true) (k24 : PySem.W.keepIn K (.ref f24) = true)
    (a25 : PySem.W.nsIn K mainGlobals "is_row" = some (some (.ref f25))) (l25 : K.lookup f25 = some ⟨oc25, od25, .func (PySem.W.fnOf "is_row" "is_row" (defArgs s_is_row) (defBody s_is_row) (defScope s_is_row) .none kV25 dc25 pm25 an25 cd25 ct25), sl25⟩) (c25 : PySem.W.codeIn K cd25 "is_row" = true) (k25 : PySem.W.keepIn K (.ref f25) = true)
    (a26 : PySem.W.nsIn K mainGlobals "is_logic_value" = some (some (.ref f26))) (l26 : K.lookup f26 = some ⟨oc26, od26, .func (PySem.W.fnOf "is_logic_value" "is_logic_value" (defArgs s_is_logic_value) (defBody s_is_logic_value) (defScope s_is_logic_value) .none kV26 dc26 pm26 an26 cd26 ct26), sl26⟩) (c26 : PySem.W.codeIn K cd26 "is_logic_value" = true) (k26 : PySem.W.keepIn K (.ref f26) = true)
    (a27 : PySem.W.nsIn K mainGlobals "_law_any_machine" = some (some (.ref f27))) (l27 : K.lookup f27 = some ⟨oc27, od27, .func (PySem.W.fnOf "_law_any_machine" "_law_any_machine" (defArgs s__law_any_machine) (defBody s__law_any_machine) (defScope s__law_any_machine) .none kV27 dc27 pm27 an27 cd27 ct27), sl27⟩) (c27 : PySem.W.codeIn K cd27 "_law_any_machine" = true) (k27 : PySem.W.keepIn K (.ref f27) = true)
    (a28 : PySem.W.nsIn K mainGlobals "is_machine_value" = some (some (.ref f28))) (l28 : K.lookup f28 = some ⟨oc28, od28, .func (PySem.W.fnOf "is_machine_value" "is_machine_value" (defArgs s_is_machine_value) (defBody s_is_machine_value) (defScope s_is_machine_value) .none kV28 dc28 pm28 an28 cd28 ct28), sl28⟩) (c28 : PySem.W.codeIn K cd28 "is_machine_value" = true) (k28 : PySem.W.keepIn K (.ref f28) = true)
    (a29 : PySem.W.nsIn K mainGlobals "need_machine" = some (some (.ref f29))) (l29 : K.lookup f29 = some ⟨oc29, od29, .func (PySem.W.fnOf "need_machine" "need_machine" (defArgs s_need_machine) (defBody s_need_machine) (defScope s_need_machine) .none kV29 dc29 pm29 an29 cd29 ct29), sl29⟩) (c29 : PySem.W.codeIn K cd29 "need_machine" = true) (k29 : PySem.W.keepIn K (.ref f29) = true)
    (a30 : PySem.W.nsIn K mainGlobals "need_logic" = some (some (.ref f30))) (l30 : K.lookup f30 = some ⟨oc30, od30, .func (PySem.W.fnOf "need_logic" "need_logic" (defArgs s_need_logic) (defBody s_need_logic) (defScope s_need_logic) .none kV30 dc30 pm30 an30 cd30 ct30), sl30⟩) (c30 : PySem.W.codeIn K cd30 "need_logic" = true) (k30 : PySem.W.keepIn K (.ref f30) = true)
    (a31 : PySem.W.nsIn K mainGlobals "output" = some (some (.ref f31))) (l31 : K.lookup f31 = some ⟨oc31, od31, .func (PySem.W.fnOf "output" "output" (defArgs s_output) (defBody s_output) (defScope s_output) .none kV31 dc31 pm31 an31 cd31 ct31), sl31⟩) (c31 : PySem.W.codeIn K cd31 "output" = true) (k31 : PySem.W.keepIn K (.ref f31) = true)
    (a32 : PySem.W.nsIn K mainGlobals "law" = some (some (.ref f32))) (l32 : K.lookup f32 = some ⟨oc32, od32, .func (PySem.W.fnOf "law" "law" (defArgs s_law) (defBody s_law) (defScope s_law) .none kV32 dc32 pm32 an32 cd32 ct32), sl32⟩) (c32 : PySem.W.codeIn K cd32 "law" = true) (k32 : PySem.W.keepIn K (.ref f32) = true)
    (z_all : PySem.W.nsIn K mainGlobals "all" = some none)
    (z_bool : PySem.W.nsIn K mainGlobals "bool" = some none)
    (z_int : PySem.W.nsIn K mainGlobals "int" = some none)
    (z_isinstance : PySem.W.nsIn K mainGlobals "isinstance" = some none)
    (z_len : PySem.W.nsIn K mainGlobals "len" = some none)
    (z_list : PySem.W.nsIn K mainGlobals "list" = some none)
    (z_max : PySem.W.nsIn K mainGlobals "max" = some none)
    (z_min : PySem.W.nsIn K mainGlobals "min" = some none)
    (z_range : PySem.W.nsIn K mainGlobals "range" = some none)
    (z_repr : PySem.W.nsIn K mainGlobals "repr" = some none)
    (z_str : PySem.W.nsIn K mainGlobals "str" = some none)
    (z_tuple : PySem.W.nsIn K mainGlobals "tuple" = some none)
    (z_zip : PySem.W.nsIn K mainGlobals "zip" = some none)
    (aKINDS : PySem.W.nsIn K mainGlobals "KINDS" = some (some (.ref fKINDS))) (lKINDS : K.lookup fKINDS = some ⟨.type "tuple", odKINDS, .seq #[.str "one" tKINDS0, .str "pair" tKINDS1] nKINDS, slKINDS⟩) :
    ∃ fd : FuncData, (∀ (s : Shared) (v : Value), BindsTo s fd ⟨[v], []⟩ [("script", v)]) ∧ ∀ base : Heap, K.In base → base.Ns mainGlobals mg → FnG l.prog w K mg base 9 fa fd ["script"] (spLaw K) := by
  have e := hfa.symm.trans (PySem.W.mg_of X G a32)
  have T : {T : Facts K mg // T.d_law.a = f32 ∧ T.d_law.fd = PySem.W.fnOf "law" "law" (defArgs s_law) (defBody s_law) (defScope s_law) .none kV32 dc32 pm32 an32 cd32 ct32} := ⟨{
    d__law_deck := ⟨f0, _, fun_mk (st := s__law_deck) l0 c0 k0, PySem.W.mg_of X G a0, (fun_mk (st := s__law_deck) l0 c0 k0).binds (ps := ["script"]) fun _ _ _ _ _ _ us hl => match us, hl with | [_], _ => rfl⟩
    d_two := ⟨f1, _, fun_mk (st := s_two) l1 c1 k1, PySem.W.mg_of X G a1, (fun_mk (st := s_two) l1 c1 k1).binds (ps := ["n"]) fun _ _ _ _ _ _ us hl => match us, hl with | [_], _ => rfl⟩
    d_is_integer := ⟨f2, _, fun_mk (st := s_is_integer) l2 c2 k2, PySem.W.mg_of X G a2, (fun_mk (st := s_is_integer) l2 c2 k2).binds (ps := ["thing"]) fun _ _ _ _ _ _ us hl => match us, hl with | [_], _ => rfl⟩
    d_is_word_of := ⟨f3, _, fun_mk (st := s_is_word_of) l3 c3 k3, PySem.W.mg_of X G a3, (fun_mk (st := s_is_word_of) l3 c3 k3).binds (ps := ["thing", "words"]) fun _ _ _ _ _ _ us hl => match us, hl with | [_, _], _ => rfl⟩
    d_is_tuple := ⟨f4, _, fun_mk (st := s_is_tuple) l4 c4 k4, PySem.W.mg_of X G a4, (fun_mk (st := s_is_tuple) l4 c4 k4).binds (ps := ["thing", "length"]) fun _ _ _ _ _ _ us hl => match us, hl with | [_, _], _ => rfl⟩
    d_figures := ⟨f5, _, fun_mk (st := s_figures) l5 c5 k5, PySem.W.mg_of X G a5, (fun_mk (st := s_figures) l5 c5 k5).binds (ps := ["number", "length"]) fun _ _ _ _ _ _ us hl => match us, hl with | [_, _], _ => rfl⟩
    d_does_match := ⟨f6, _, fun_mk (st := s_does_match) l6 c6 k6, PySem.W.mg_of X G a6, (fun_mk (st := s_does_match) l6 c6 k6).binds (ps := ["pattern", "word"]) fun _ _ _ _ _ _ us hl => match us, hl with | [_, _], _ => rfl⟩
    d__law_draw := ⟨f7, _, fun_mk (st := s__law_draw) l7 c7 k7, PySem.W.mg_of X G a7, (fun_mk (st := s__law_draw) l7 c7 k7).binds (ps := ["deck", "many"]) fun _ _ _ _ _ _ us hl => match us, hl with | [_, _], _ => rfl⟩
    d__law_same := ⟨f8, _, fun_mk (st := s__law_same) l8 c8 k8, PySem.W.mg_of X G a8, (fun_mk (st := s__law_same) l8 c8 k8).binds (ps := ["told", "due"]) fun _ _ _ _ _ _ us hl => match us, hl with | [_, _], _ => rfl⟩
    d__law_bits := ⟨f9, _, fun_mk (st := s__law_bits) l9 c9 k9, PySem.W.mg_of X G a9, (fun_mk (st := s__law_bits) l9 c9 k9).binds (ps := ["b", "s", "cell"]) fun _ _ _ _ _ _ us hl => match us, hl with | [_, _, _], _ => rfl⟩
    d_is_from := ⟨f10, _, fun_mk (st := s_is_from) l10 c10 k10, PySem.W.mg_of X G a10, (fun_mk (st := s_is_from) l10 c10 k10).binds (ps := ["thing", "least"]) fun _ _ _ _ _ _ us hl => match us, hl with | [_, _], _ => rfl⟩
    d_is_scheme_value := ⟨f11, _, fun_mk (st := s_is_scheme_value) l11 c11 k11, PySem.W.mg_of X G a11, (fun_mk (st := s_is_scheme_value) l11 c11 k11).binds (ps := ["thing"]) fun _ _ _ _ _ _ us hl => match us, hl with | [_], _ => rfl⟩
    d_is_digit := ⟨f12, _, fun_mk (st := s_is_digit) l12 c12 k12, PySem.W.mg_of X G a12, (fun_mk (st := s_is_digit) l12 c12 k12).binds (ps := ["scheme", "thing"]) fun _ _ _ _ _ _ us hl => match us, hl with | [_, _], _ => rfl⟩
    d_is_cell := ⟨f13, _, fun_mk (st := s_is_cell) l13 c13 k13, PySem.W.mg_of X G a13, (fun_mk (st := s_is_cell) l13 c13 k13).binds (ps := ["look", "thing"]) fun _ _ _ _ _ _ us hl => match us, hl with | [_, _], _ => rfl⟩
    d_word_of := ⟨f14, _, fun_mk (st := s_word_of) l14 c14 k14, PySem.W.mg_of X G a14, (fun_mk (st := s_word_of) l14 c14 k14).binds (ps := ["machine", "b", "cell"]) fun _ _ _ _ _ _ us hl => match us, hl with | [_, _, _], _ => rfl⟩
    d__law_pick := ⟨f15, _, fun_mk (st := s__law_pick) l15 c15 k15, PySem.W.mg_of X G a15, (fun_mk (st := s__law_pick) l15 c15 k15).binds (ps := ["deck", "some"]) fun _ _ _ _ _ _ us hl => match us, hl with | [_, _], _ => rfl⟩
    d__law_mixed := ⟨f16, _, fun_mk (st := s__law_mixed) l16 c16 k16, PySem.W.mg_of X G a16, (fun_mk (st := s__law_mixed) l16 c16 k16).binds (ps := ["deck", "some"]) fun _ _ _ _ _ _ us hl => match us, hl with | [_, _], _ => rfl⟩
    d__law_due := ⟨f17, _, fun_mk (st := s__law_due) l17 c17 k17, PySem.W.mg_of X G a17, (fun_mk (st := s__law_due) l17 c17 k17).binds (ps := ["machine", "logic", "cell"]) fun _ _ _ _ _ _ us hl => match us, hl with | [_, _, _], _ => rfl⟩
    d_is_string := ⟨f18, _, fun_mk (st := s_is_string) l18 c18 k18, PySem.W.mg_of X G a18, (fun_mk (st := s_is_string) l18 c18 k18).binds (ps := ["scheme", "thing"]) fun _ _ _ _ _ _ us hl => match us, hl with | [_, _], _ => rfl⟩
    d_is_look_value := ⟨f19, _, fun_mk (st := s_is_look_value) l19 c19 k19, PySem.W.mg_of X G a19, (fun_mk (st := s_is_look_value) l19 c19 k19).binds (ps := ["thing"]) fun _ _ _ _ _ _ us hl => match us, hl with | [_], _ => rfl⟩
    d_is_term := ⟨f20, _, fun_mk (st := s_is_term) l20 c20 k20, PySem.W.mg_of X G a20, (fun_mk (st := s_is_term) l20 c20 k20).binds (ps := ["scheme", "length", "thing"]) fun _ _ _ _ _ _ us hl => match us, hl with | [_, _, _], _ => rfl⟩
    d_output_of := ⟨f21, _, fun_mk (st := s_output_of) l21 c21 k21, PySem.W.mg_of X G a21, (fun_mk (st := s_output_of) l21 c21 k21).binds (ps := ["machine", "logic", "cell"]) fun _ _ _ _ _ _ us hl => match us, hl with | [_, _, _], _ => rfl⟩
    d__law_scheme := ⟨f22, _, fun_mk (st := s__law_scheme) l22 c22 k22, PySem.W.mg_of X G a22, (fun_mk (st := s__law_scheme) l22 c22 k22).binds (ps := ["deck"]) fun _ _ _ _ _ _ us hl => match us, hl with | [_], _ => rfl⟩
    d__law_any_logic := ⟨f23, _, fun_mk (st := s__law_any_logic) l23 c23 k23, PySem.W.mg_of X G a23, (fun_mk (st := s__law_any_logic) l23 c23 k23).binds (ps := ["deck", "machine"]) fun _ _ _ _ _ _ us hl => match us, hl with | [_, _], _ => rfl⟩
    d__law_cells := ⟨f24, _, fun_mk (st := s__law_cells) l24 c24 k24, PySem.W.mg_of X G a24, (fun_mk (st := s__law_cells) l24 c24 k24).binds (ps := ["deck", "machine", "b"]) fun _ _ _ _ _ _ us hl => match us, hl with | [_, _, _], _ => rfl⟩
    d_is_row := ⟨f25, _, fun_mk (st := s_is_row) l25 c25 k25, PySem.W.mg_of X G a25, (fun_mk (st := s_is_row) l25 c25 k25).binds (ps := ["scheme", "thing"]) fun _ _ _ _ _ _ us hl => match us, hl with | [_, _], _ => rfl⟩
    d_is_logic_value := ⟨f26, _, fun_mk (st := s_is_logic_value) l26 c26 k26, PySem.W.mg_of X G a26, (fun_mk (st := s_is_logic_value) l26 c26 k26).binds (ps := ["machine", "thing"]) fun _ _ _ _ _ _ us hl => match us, hl with | [_, _], _ => rfl⟩
    d__law_any_machine := ⟨f27, _, fun_mk (st := s__law_any_machine) l27 c27 k27, PySem.W.mg_of X G a27, (fun_mk (st := s__law_any_machine) l27 c27 k27).binds (ps := ["deck", "most"]) fun _ _ _ _ _ _ us hl => match us, hl with | [_, _], _ => rfl⟩
    d_is_machine_value := ⟨f28, _, fun_mk (st := s_is_machine_value) l28 c28 k28, PySem.W.mg_of X G a28, (fun_mk (st := s_is_machine_value) l28 c28 k28).binds (ps := ["thing"]) fun _ _ _ _ _ _ us hl => match us, hl with | [_], _ => rfl⟩
    d_need_machine := ⟨f29, _, fun_mk (st := s_need_machine) l29 c29 k29, PySem.W.mg_of X G a29, (fun_mk (st := s_need_machine) l29 c29 k29).binds (ps := ["machine"]) fun _ _ _ _ _ _ us hl => match us, hl with | [_], _ => rfl⟩
    d_need_logic := ⟨f30, _, fun_mk (st := s_need_logic) l30 c30 k30, PySem.W.mg_of X G a30, (fun_mk (st := s_need_logic) l30 c30 k30).binds (ps := ["machine", "logic"]) fun _ _ _ _ _ _ us hl => match us, hl with | [_, _], _ => rfl⟩
    d_output := ⟨f31, _, fun_mk (st := s_output) l31 c31 k31, PySem.W.mg_of X G a31, (fun_mk (st := s_output) l31 c31 k31).binds (ps := ["machine", "logic", "cell"]) fun _ _ _ _ _ _ us hl => match us, hl with | [_, _, _], _ => rfl⟩
    d_law := ⟨f32, _, fun_mk (st := s_law) l32 c32 k32, PySem.W.mg_of X G a32, (fun_mk (st := s_law) l32 c32 k32).binds (ps := ["script"]) fun _ _ _ _ _ _ us hl => match us, hl with | [_], _ => rfl⟩
    kw_output_cell_logic_machine := kw_of (fun_mk (st := s_output) l31 c31 k31) fun _ _ _ _ _ _ ws us h1 h2 h3 => by
      match ws, h1 with
      | [v0, v1, v2], _ => cases h2; rfl
    m_all := PySem.W.mg_none_of X G z_all
    m_bool := PySem.W.mg_none_of X G z_bool
    m_int := PySem.W.mg_none_of X G z_int
    m_isinstance := PySem.W.mg_none_of X G z_isinstance
    m_len := PySem.W.mg_none_of X G z_len
    m_list := PySem.W.mg_none_of X G z_list
    m_max := PySem.W.mg_none_of X G z_max
    m_min := PySem.W.mg_none_of X G z_min
    m_range := PySem.W.mg_none_of X G z_range
    m_repr := PySem.W.mg_none_of X G z_repr
    m_str := PySem.W.mg_none_of X G z_str
    m_tuple := PySem.W.mg_none_of X G z_tuple
    m_zip := PySem.W.mg_none_of X G z_zip
    a_KINDS := fKINDS
    g_KINDS := PySem.W.mg_of X G aKINDS
    r_KINDS := fun B H => .tupleK (vs := [.str "one", .str "pair"]) ⟨_, _, _, lKINDS, rfl, rfl, by show (2 : Nat) ≤ sizeLine; rw [sizeLine_eq]; decide, (.cons ⟨tKINDS0, rfl⟩ (.cons ⟨tKINDS1, rfl⟩ .nil))⟩ (.cons (.str _ (by decide +kernel)) (.cons (.str _ (by decide +kernel)) .nil)) }, rfl, rfl⟩
  obtain ⟨T, e1, e2⟩ := T
  cases e
  rw [← e1]
  exact ⟨T.d_law.fd, fun s v => by rw [e2]; exact .of_eq rfl, fun base _ _ => ok_law T pure_law⟩
end Q47
open PySem PySem.W PyProof.Rows
set_option maxHeartbeats 0 in
theorem PySem.Challenge.cw_quotientcells_k47_outputs_of_any_logic_holds : PySem.Challenge.rw_quotientcells_k47_outputs_of_any_logic.Holds := by
  w_on; o_law; k_head; (case hw => w_witness2)
  k_fill
  refine DL.walkG (l := PySem.Challenge.rw_quotientcells_k47_outputs_of_any_logic) (n := 63) (k := 9) (x := "script") rfl (by decide) rfl ⟨rfl, by decide, by decide⟩ (fun w h Y => PySem.W.kIn_of Y) ?F
  case F =>
    intro w mg fa h KX G hmg
    refine' Q47.all_mk KX G hmg ?a0 ?l0 ?c0 ?k0 ?a1 ?l1 ?c1 ?k1 ?a2 ?l2 ?c2 ?k2 ?a3 ?l3 ?c3 ?k3 ?a4 ?l4 ?c4 ?k4 ?a5 ?l5 ?c5 ?k5 ?a6 ?l6 ?c6 ?k6 ?a7 ?l7 ?c7 ?k7 ?a8 ?l8 ?c8 ?k8 ?a9 ?l9 ?c9 ?k9 ?a10 ?l10 ?c10 ?k10 ?a11 ?l11 ?c11 ?k11 ?a12 ?l12 ?c12 ?k12 ?a13 ?l13 ?c13 ?k13 ?a14 ?l14 ?c14 ?k14 ?a15 ?l15 ?c15 ?k15 ?a16 ?l16 ?c16 ?k16 ?a17 ?l17 ?c17 ?k17 ?a18 ?l18 ?c18 ?k18 ?a19 ?l19 ?c19 ?k19 ?a20 ?l20 ?c20 ?k20 ?a21 ?l21 ?c21 ?k21 ?a22 ?l22 ?c22 ?k22 ?a23 ?l23 ?c23 ?k23 ?a24 ?l24 ?c24 ?k24 ?a25 ?l25 ?c25 ?k25 ?a26 ?l26 ?c26 ?k26 ?a27 ?l27 ?c27 ?k27 ?a28 ?l28 ?c28 ?k28 ?a29 ?l29 ?c29 ?k29 ?a30 ?l30 ?c30 ?k30 ?a31 ?l31 ?c31 ?k31 ?a32 ?l32 ?c32 ?k32 ?z_all ?z_bool ?z_int ?z_isinstance ?z_len ?z_list ?z_max ?z_min ?z_range ?z_repr ?z_str ?z_tuple ?z_zip ?aKINDS ?lKINDS
    (case a0 => k_is); (case l0 => k_is); (case c0 => k_is); (case k0 => k_is); (case a1 => k_is); (case l1 => k_is); (case c1 => k_is); (case k1 => k_is); (case a2 => k_is); (case l2 => k_is); (case c2 => k_is); (case k2 => k_is); (case a3 => k_is); (case l3 => k_is); (case c3 => k_is); (case k3 => k_is); (case a4 => k_is); (case l4 => k_is); (case c4 => k_is); (case k4 => k_is); (case a5 => k_is); (case l5 => k_is); (case c5 => k_is); (case k5 => k_is); (case a6 => k_is); (case l6 => k_is); (case c6 => k_is); (case k6 => k_is); (case a7 => k_is); (case l7 => k_is); (case c7 => k_is); (case k7 => k_is); (case a8 => k_is); (case l8 => k_is); (case c8 => k_is); (case k8 => k_is); (case a9 => k_is); (case l9 => k_is); (case c9 => k_is); (case k9 => k_is); (case a10 => k_is); (case l10 => k_is); (case c10 => k_is); (case k10 => k_is); (case a11 => k_is); (case l11 => k_is); (case c11 => k_is); (case k11 => k_is); (case a12 => k_is); (case l12 => k_is); (case c12 => k_is); (case k12 => k_is); (case a13 => k_is); (case l13 => k_is); (case c13 => k_is); (case k13 => k_is); (case a14 => k_is); (case l14 => k_is); (case c14 => k_is); (case k14 => k_is); (case a15 => k_is); (case l15 => k_is); (case c15 => k_is); (case k15 => k_is); (case a16 => k_is); (case l16 => k_is); (case c16 => k_is); (case k16 => k_is); (case a17 => k_is); (case l17 => k_is); (case c17 => k_is); (case k17 => k_is); (case a18 => k_is); (case l18 => k_is); (case c18 => k_is); (case k18 => k_is); (case a19 => k_is); (case l19 => k_is); (case c19 => k_is); (case k19 => k_is); (case a20 => k_is); (case l20 => k_is); (case c20 => k_is); (case k20 => k_is); (case a21 => k_is); (case l21 => k_is); (case c21 => k_is); (case k21 => k_is); (case a22 => k_is); (case l22 => k_is); (case c22 => k_is); (case k22 => k_is); (case a23 => k_is); (case l23 => k_is); (case c23 => k_is); (case k23 => k_is); (case a24 => k_is); (case l24 => k_is); (case c24 => k_is); (case k24 => k_is); (case a25 => k_is); (case l25 => k_is); (case c25 => k_is); (case k25 => k_is); (case a26 => k_is); (case l26 => k_is); (case c26 => k_is); (case k26 => k_is); (case a27 => k_is); (case l27 => k_is); (case c27 => k_is); (case k27 => k_is); (case a28 => k_is); (case l28 => k_is); (case c28 => k_is); (case k28 => k_is); (case a29 => k_is); (case l29 => k_is); (case c29 => k_is); (case k29 => k_is); (case a30 => k_is); (case l30 => k_is); (case c30 => k_is); (case k30 => k_is); (case a31 => k_is); (case l31 => k_is); (case c31 => k_is); (case k31 => k_is); (case a32 => k_is); (case l32 => k_is); (case c32 => k_is); (case k32 => k_is); (case z_all => k_is); (case z_bool => k_is); (case z_int => k_is); (case z_isinstance => k_is); (case z_len => k_is); (case z_list => k_is); (case z_max => k_is); (case z_min => k_is); (case z_range => k_is); (case z_repr => k_is); (case z_str => k_is); (case z_tuple => k_is); (case z_zip => k_is); (case aKINDS => k_is); (case lKINDS => k_is)
