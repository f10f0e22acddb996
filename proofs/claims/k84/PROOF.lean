import PyProof.Rows.All
import Wide.All
import OpenK.AllK
import Wide.FinOn
import HandS.ForMost
import KE.DatumMoreOrd
import KE.DatumIndex
import KE.SortData
import HandS.Walk
import HandS.Conv
import HandS.RevRange
import HandS.ForExc
import HandS.More
import HandS.Defaults
import HandS.Head0
import HandS.Head1
import HandS.Head2
import HandS.HeadEnd
import HandS.HeadHook1
import HandS.HeadHook2
import HandS.IsInst
import HandS.Text
import HandS.ForDict
import PyProof.Rows.CallKwBuiltin
import PySem.Challenge.RW_meetstretch_k84_whole_keepers_grow_and_c
set_option Elab.async false
set_option linter.all false
set_option maxRecDepth 100000
set_option maxHeartbeats 2000000
namespace Fw
open PySem PySem.Spec L2

/-! ### typed values -/
abbrev Tx := List Nat
def S (t : Tx) : Str := ⟨t.toArray⟩
theorem S_len (t : Tx) : (S t).length = t.length := by simp [S, Str.length]
theorem S_inj {a b : Tx} (h : S a = S b) : a = b := by
  have := congrArg (fun z : Str => z.cps.toList) h
  simpa [S] using this
theorem S_of (z : Str) : S z.cps.toList = z := by cases z; rfl
abbrev Fg := PySem.W.Frag

class Rp (α : Type) where
  is : Hp → V → α → Prop
  mono : ∀ {B B' : Hp} {v : V} {a : α}, Same B B' → is B v a → is B' v a

def All2 {α β : Type} (r : α → β → Prop) : List α → List β → Prop
  | [], [] => True
  | v :: vs, a :: as => r v a ∧ All2 r vs as
  | _, _ => False
theorem All2.imp {α β : Type} {r r' : α → β → Prop} (h : ∀ a b, r a b → r' a b) : ∀ {vs : List α} {as : List β}, All2 r vs as → All2 r' vs as
  | [], [], _ => trivial
  | _ :: _, _ :: _, ⟨x, y⟩ => ⟨h _ _ x, All2.imp h y⟩
theorem All2.len {α β : Type} {r : α → β → Prop} : ∀ {vs : List α} {as : List β}, All2 r vs as → vs.length = as.length
  | [], [], _ => rfl
  | _ :: _, _ :: _, ⟨_, y⟩ => by simp [All2.len y]
theorem All2.app {α β : Type} {r : α → β → Prop} : ∀ {vs vs' : List α} {as as' : List β}, All2 r vs as → All2 r vs' as' → All2 r (vs ++ vs') (as ++ as')
  | [], _, [], _, _, h => h
  | _ :: _, _, _ :: _, _, ⟨x, y⟩, h => ⟨x, All2.app y h⟩
theorem All2.get {α β : Type} {r : α → β → Prop} : ∀ {vs : List α} {as : List β} {i : Nat} {a : β}, All2 r vs as → as[i]? = some a → ∃ v, vs[i]? = some v ∧ r v a
  | [], [], i, a, _, h => by simp at h
  | v :: _, _ :: _, 0, a, ⟨x, _⟩, h => by simp at h; subst h; exact ⟨v, rfl, x⟩
  | _ :: _, _ :: _, i + 1, a, ⟨_, y⟩, h => by
    obtain ⟨v, h1, h2⟩ := All2.get (i := i) y (by simpa using h)
    exact ⟨v, by simpa using h1, h2⟩
theorem All2.get' {α β : Type} {r : α → β → Prop} : ∀ {vs : List α} {as : List β} {i : Nat} {v : α}, All2 r vs as → vs[i]? = some v → ∃ a, as[i]? = some a ∧ r v a
  | [], [], i, a, _, h => by simp at h
  | _ :: _, a :: _, 0, v, ⟨x, _⟩, h => by simp at h; subst h; exact ⟨a, rfl, x⟩
  | _ :: _, _ :: _, i + 1, a, ⟨_, y⟩, h => by
    obtain ⟨v, h1, h2⟩ := All2.get' (i := i) y (by simpa using h)
    exact ⟨v, by simpa using h1, h2⟩
theorem All2.set {α β : Type} {r : α → β → Prop} {v : α} {a : β} (q : r v a) : ∀ {vs : List α} {as : List β} (i : Nat), All2 r vs as → All2 r (vs.set i v) (as.set i a)
  | [], [], _, _ => trivial
  | _ :: _, _ :: _, 0, ⟨_, y⟩ => ⟨q, y⟩
  | _ :: _, _ :: _, i + 1, ⟨x, y⟩ => ⟨x, All2.set q i y⟩
theorem All2.take {α β : Type} {r : α → β → Prop} : ∀ {vs : List α} {as : List β} (n : Nat), All2 r vs as → All2 r (vs.take n) (as.take n)
  | _, _, 0, _ => by simp [All2]
  | [], [], _ + 1, _ => trivial
  | _ :: _, _ :: _, n + 1, ⟨x, y⟩ => ⟨x, All2.take n y⟩
theorem All2.drop {α β : Type} {r : α → β → Prop} : ∀ {vs : List α} {as : List β} (n : Nat), All2 r vs as → All2 r (vs.drop n) (as.drop n)
  | _, _, 0, h => h
  | [], [], _ + 1, _ => trivial
  | _ :: _, _ :: _, n + 1, ⟨_, y⟩ => All2.drop n y
theorem All2.map {α β γ : Type} {r : α → β → Prop} {f : γ → α} {g : γ → β} : ∀ {l : List γ}, (∀ c ∈ l, r (f c) (g c)) → All2 r (l.map f) (l.map g)
  | [], _ => trivial
  | c :: l, h => ⟨h c (by simp), All2.map fun d hd => h d (by simp [hd])⟩
theorem All2.rev {α β : Type} {r : α → β → Prop} : ∀ {vs : List α} {as : List β}, All2 r vs as → All2 r vs.reverse as.reverse
  | [], [], _ => trivial
  | _ :: _, _ :: _, ⟨x, y⟩ => by
    rw [List.reverse_cons, List.reverse_cons]
    exact (All2.rev y).app ⟨x, trivial⟩

theorem Same.sqT {K : Fg} {H H' : Hp} {a : Addr} {xs : List V} (e : Same H H') (h : SqT K H a xs) : SqT K H' a xs := by
  rcases h with (h | ⟨o, h⟩) | h
  · exact .inl (.inl (e _ _ h))
  · exact .inl (.inr ⟨o, e _ _ h⟩)
  · exact .inr h

instance : Rp Int := ⟨fun _ v a => v = .int a, fun _ h => h⟩
instance : Rp Bool := ⟨fun _ v a => v = .bl a, fun _ h => h⟩
instance : Rp Unit := ⟨fun _ v _ => v = .non, fun _ h => h⟩
instance instTx : Rp (List Nat) := ⟨fun _ v a => v = .str (S a), fun _ h => h⟩
instance {α : Type} [Rp α] : Rp (Option α) := ⟨fun B v a => match a with | none => v = .non | some a => v ≠ .non ∧ Rp.is B v a, fun {B B' v a} e h => by
  cases a with
  | none => exact h
  | some a => exact ⟨h.1, Rp.mono e h.2⟩⟩
instance {α : Type} [Rp α] : Rp (List α) := ⟨fun B v as => ∃ p vs, v = .ref p ∧ B p = some (.lst vs) ∧ All2 (Rp.is B) vs as, fun e ⟨p, vs, h1, h2, h3⟩ => ⟨p, vs, h1, e _ _ h2, h3.imp fun _ _ q => Rp.mono e q⟩⟩
instance {α β : Type} [Rp α] [Rp β] : Rp (α × β) := ⟨fun B v a => ∃ p x y, v = .ref p ∧ B p = some (.tup [x, y]) ∧ Rp.is B x a.1 ∧ Rp.is B y a.2,
  fun e ⟨p, x, y, h1, h2, h3, h4⟩ => ⟨p, x, y, h1, e _ _ h2, Rp.mono e h3, Rp.mono e h4⟩⟩
instance {α β γ : Type} [Rp α] [Rp β] [Rp γ] : Rp (PySem.W.T3 α β γ) := ⟨fun B v t => ∃ p x y z, v = .ref p ∧ B p = some (.tup [x, y, z]) ∧ Rp.is B x t.a ∧ Rp.is B y t.b ∧ Rp.is B z t.c,
  fun e ⟨p, x, y, z, h1, h2, h3, h4, h5⟩ => ⟨p, x, y, z, h1, e _ _ h2, Rp.mono e h3, Rp.mono e h4, Rp.mono e h5⟩⟩
/-- a key -/
class Ky (κ : Type) extends Rp κ where
  k : κ → Key
  isk : ∀ {B : Hp} {v : V} {a : κ}, is B v a ↔ v = kV (k a)
  inj : ∀ {a b : κ}, k a = k b → a = b
instance : Ky Int := ⟨fun a => .inl a, Iff.rfl, fun h => Sum.inl.inj h⟩
instance instKyTx : Ky (List Nat) := { instTx with k := fun a => .inr (S a), isk := Iff.rfl, inj := fun h => S_inj (Sum.inr.inj h) }
/-- a dict that stands: its pairs in order -/
structure Dc (κ β : Type) where
  l : List (κ × β)
def kvAll {κ β : Type} [Ky κ] [Rp β] (B : Hp) : List (Key × V) → List (κ × β) → Prop := All2 fun p q => p.1 = Ky.k q.1 ∧ Rp.is B p.2 q.2
instance {κ β : Type} [Ky κ] [Rp β] : Rp (Dc κ β) := ⟨fun B v d => ∃ p kvs, v = .ref p ∧ B p = some (.dK kvs) ∧ kvAll B kvs d.l,
  fun e ⟨p, kvs, h1, h2, h3⟩ => ⟨p, kvs, h1, e _ _ h2, h3.imp fun _ _ q => ⟨q.1, Rp.mono e q.2⟩⟩⟩

/-! ### slots, cells, contexts -/
structure Sl where
  P : Hp → V → Prop
  m : ∀ {B B' : Hp} {v : V}, Same B B' → P B v → P B' v
def isa {α : Type} [Rp α] (a : α) : Sl := ⟨fun B v => Rp.is B v a, fun s h => Rp.mono s h⟩
def isr (p : Addr) : Sl := ⟨fun _ v => v = .ref p, fun _ h => h⟩
structure Cell where
  as : List Addr
  P : Hp → Hp → Prop
  mono : ∀ {B B' H : Hp}, Same B B' → P B H → P B' H
  loc : ∀ {B H H' : Hp}, (∀ a ∈ as, H' a = H a) → P B H → P B H'
  th : ∀ {B H : Hp}, P B H → ∀ a ∈ as, H a ≠ none
def lstC (p : Addr) {α : Type} [Rp α] (xs : List α) : Cell where
  as := [p]
  P := fun B H => ∃ vs, H p = some (.lst vs) ∧ All2 (Rp.is B) vs xs
  mono := fun e ⟨vs, h1, h2⟩ => ⟨vs, h1, h2.imp fun _ _ q => Rp.mono e q⟩
  loc := fun e ⟨vs, h1, h2⟩ => ⟨vs, by rw [e p (by simp)]; exact h1, h2⟩
  th := fun ⟨vs, h1, _⟩ a ha => by simp at ha; subst ha; rw [h1]; simp
def dicC (p : Addr) {κ β : Type} [Ky κ] [Rp β] (xs : List (κ × β)) : Cell where
  as := [p]
  P := fun B H => ∃ vs, H p = some (.dK vs) ∧ kvAll B vs xs
  mono := fun e ⟨vs, h1, h2⟩ => ⟨vs, h1, h2.imp fun _ _ q => ⟨q.1, Rp.mono e q.2⟩⟩
  loc := fun e ⟨vs, h1, h2⟩ => ⟨vs, by rw [e p (by simp)]; exact h1, h2⟩
  th := fun ⟨vs, h1, _⟩ a ha => by simp at ha; subst ha; rw [h1]; simp

def Env : List (Option Sl) → Hp → St → Prop
  | [], _, σ => σ = []
  | g :: gs, B, σ => ∃ v vs, σ = v :: vs ∧ (∀ s, g = some s → ∃ x, v = some x ∧ s.P B x) ∧ Env gs B vs
theorem Env.mono {B B' : Hp} (e : Same B B') : ∀ {g : List (Option Sl)} {σ : St}, Env g B σ → Env g B' σ
  | [], _, h => h
  | _ :: _, _, ⟨v, vs, h1, h2, h3⟩ => ⟨v, vs, h1, fun s hs => let ⟨x, q1, q2⟩ := h2 s hs; ⟨x, q1, s.m e q2⟩, Env.mono e h3⟩
theorem Env.get {B : Hp} {s : Sl} : ∀ {g : List (Option Sl)} {σ : St} {i : Nat}, Env g B σ → g[i]? = some (some s) → ∃ v, σ[i]? = some (some v) ∧ s.P B v
  | [], _, i, _, h => by simp at h
  | _ :: _, _, 0, ⟨v, vs, h1, h2, h3⟩, h => by
    obtain ⟨x, q1, q2⟩ := h2 s (by simpa using h)
    exact ⟨x, by rw [h1, q1]; rfl, q2⟩
  | _ :: _, _, i + 1, ⟨v, vs, h1, h2, h3⟩, h => by
    obtain ⟨x, q1, q2⟩ := Env.get (i := i) h3 (by simpa using h)
    exact ⟨x, by rw [h1]; simpa using q1, q2⟩
theorem Env.set {B : Hp} {o : Option Sl} {x : Option V} (q : ∀ s, o = some s → ∃ y, x = some y ∧ s.P B y) : ∀ {g : List (Option Sl)} {σ : St} (i : Nat), Env g B σ → Env (g.set i o) B (σ.set i x)
  | [], σ, i, h => by
    have h' : σ = [] := h
    subst h'; exact rfl
  | _ :: _, _, 0, ⟨v, vs, h1, h2, h3⟩ => ⟨x, vs, by rw [h1]; rfl, q, h3⟩
  | _ :: _, _, i + 1, ⟨v, vs, h1, h2, h3⟩ => ⟨v, vs.set i x, by rw [h1]; rfl, h2, Env.set q i h3⟩
/-- forgetting slots -/
def Sub : List (Option Sl) → List (Option Sl) → Prop
  | [], [] => True
  | a :: as, b :: bs => (b = none ∨ a = b) ∧ Sub as bs
  | _, _ => False
theorem Sub.refl : ∀ g : List (Option Sl), Sub g g
  | [] => trivial
  | _ :: g => ⟨.inr rfl, Sub.refl g⟩
theorem Env.sub {B : Hp} : ∀ {g g' : List (Option Sl)} {σ : St}, Sub g g' → Env g B σ → Env g' B σ
  | [], [], _, _, h => h
  | _ :: _, _ :: _, _, ⟨s1, s2⟩, ⟨v, vs, h1, h2, h3⟩ => ⟨v, vs, h1, fun s hs => by
      rcases s1 with s1 | s1
      · rw [s1] at hs; cases hs
      · exact h2 s (s1.trans hs), Env.sub s2 h3⟩

def Own (F B H : Hp) : List Cell → Prop
  | [] => True
  | c :: cs => (∀ a ∈ c.as, F a = none ∧ B a = none) ∧ c.P B H ∧ (∀ d ∈ cs, ∀ a ∈ c.as, a ∉ d.as) ∧ Own F B H cs
theorem Own.imp {F B H F' B' H' : Hp} : ∀ {cs : List Cell}, Own F B H cs → Same B B' → (∀ c ∈ cs, ∀ a ∈ c.as, H' a = H a ∧ F' a = none ∧ B' a = none) → Own F' B' H' cs
  | [], _, _, _ => trivial
  | c :: cs, ⟨h1, h2, h3, h4⟩, e, k => ⟨fun a ha => (k c (by simp) a ha).2, c.mono e (c.loc (fun a ha => (k c (by simp) a ha).1) h2), h3, Own.imp h4 e fun d hd a ha => k d (by simp [hd]) a ha⟩
theorem Own.at {F B H : Hp} : ∀ {cs : List Cell} {j : Nat} {c : Cell}, Own F B H cs → cs[j]? = some c → (∀ a ∈ c.as, F a = none ∧ B a = none) ∧ c.P B H
  | [], j, c, _, h => by simp at h
  | d :: _, 0, c, ⟨h1, h2, _, _⟩, h => by simp at h; subst h; exact ⟨h1, h2⟩
  | _ :: _, j + 1, c, ⟨_, _, _, h4⟩, h => Own.at (j := j) h4 (by simpa using h)
theorem Own.mem {F B H : Hp} {cs : List Cell} {c : Cell} (h : Own F B H cs) (hc : c ∈ cs) : (∀ a ∈ c.as, F a = none ∧ B a = none) ∧ c.P B H := by
  obtain ⟨j, hj⟩ := List.mem_iff_getElem?.mp hc
  exact h.at hj
theorem Own.there {F B H : Hp} {cs : List Cell} (h : Own F B H cs) {c : Cell} (hc : c ∈ cs) {a : Addr} (ha : a ∈ c.as) : H a ≠ none := c.th (h.mem hc).2 a ha
/-- one cell is changed -/
theorem Own.upd {F B H H' : Hp} : ∀ {cs : List Cell} {j : Nat} {c c' : Cell}, Own F B H cs → cs[j]? = some c → c'.as = c.as → (∀ a, a ∉ c.as → H' a = H a) → c'.P B H' → Own F B H' (cs.set j c')
  | [], j, c, _, _, h, _, _, _ => by simp at h
  | d :: cs, 0, c, c', ⟨h1, h2, h3, h4⟩, h, e, k, q => by
    have h : d = c := by simpa using h
    subst h
    exact ⟨by rw [e]; exact h1, q, by rw [e]; exact h3, h4.imp (Same.refl B) fun x hx a ha => ⟨k a fun z => h3 x hx a z ha, ((h4.mem hx).1 a ha)⟩⟩
  | d :: cs, j + 1, c, c', ⟨h1, h2, h3, h4⟩, h, e, k, q => by
    have h : cs[j]? = some c := by simpa using h
    have hm := List.mem_of_getElem? h
    refine ⟨h1, d.loc (fun a ha => k a (h3 c hm a ha)) h2, fun x hx a ha => ?_, Own.upd h4 h e k q⟩
    rcases List.mem_or_eq_of_mem_set hx with z | z
    · exact h3 x z a ha
    · subst z; rw [e]; exact h3 c hm a ha
theorem Own.sub {F B H : Hp} : ∀ {cs cs' : List Cell}, List.Sublist cs' cs → Own F B H cs → Own F B H cs'
  | _, _, .slnil, h => h
  | _, _, .cons _ s, ⟨_, _, _, h4⟩ => Own.sub s h4
  | _, _, .cons₂ _ s, ⟨h1, h2, h3, h4⟩ => ⟨h1, h2, fun d hd => h3 d (s.subset hd), Own.sub s h4⟩

structure Ct where
  g : List (Option Sl)
  o : List Cell
structure STB (F B0 : Hp) (C : Ct) (B : Hp) (σ : St) (H : Hp) : Prop where
  fr : Same F H
  bh : Same B H
  b0 : Same B0 B
  nw : ∀ a, B a ≠ none → B0 a ≠ none ∨ F a = none
  env : Env C.g B σ
  own : Own F B H C.o
theorem same_new {H : Hp} {p : Addr} {o : HO} (h : H p = none) : Same H (upd H p o) := fun b x e => by
  rw [upd_ne (ne_of_none e h)]
  exact e
theorem same_newB {B H : Hp} {p : Addr} {o : HO} (s : Same B H) (h : H p = none) : Same (upd B p o) (upd H p o) := fun b x e => by
  by_cases hb : b = p
  · subst hb; rw [upd_same] at e ⊢; exact e
  · rw [upd_ne hb] at e ⊢; exact s b x e
section
variable {F B0 : Hp} {C C' : Ct} {B : Hp} {σ : St} {H : Hp}
/-- a new object is laid, for good -/
theorem STB.new (s : STB F B0 C B σ H) {p : Addr} (h : H p = none) (o : HO) : STB F B0 C (upd B p o) σ (upd H p o) := by
  have hB : B p = none := s.bh.free h
  refine ⟨s.fr.trans (same_new h), same_newB s.bh h, s.b0.trans (same_new hB), fun a ha => ?_, s.env.mono (same_new hB), s.own.imp (same_new hB) fun c hc a ha => ?_⟩
  · by_cases e : a = p
    · subst e; exact .inr (s.fr.free h)
    · rw [upd_ne e] at ha; exact s.nw a ha
  · have e : a ≠ p := fun z => s.own.there hc ha (z ▸ h)
    rw [upd_ne e, upd_ne e]
    exact ⟨rfl, (s.own.mem hc).1 a ha⟩
/-- a new object is laid, owned -/
theorem STB.newO (s : STB F B0 C B σ H) {p : Addr} (h : H p = none) (o : HO) {c : Cell} (e : c.as = [p]) (q : ∀ H', H' p = some o → c.P B H') : STB F B0 ⟨C.g, c :: C.o⟩ B σ (upd H p o) := by
  refine ⟨s.fr.trans (same_new h), s.bh.trans (same_new h), s.b0, s.nw, s.env, ⟨fun a ha => ?_, q _ upd_same, fun d hd a ha => ?_, s.own.imp (Same.refl B) fun d hd a ha => ?_⟩⟩
  · rw [e] at ha; simp at ha; subst ha; exact ⟨s.fr.free h, s.bh.free h⟩
  · rw [e] at ha; simp at ha; subst ha; exact fun z => s.own.there hd z h
  · have e : a ≠ p := fun z => s.own.there hd ha (z ▸ h)
    rw [upd_ne e]; exact ⟨rfl, (s.own.mem hd).1 a ha⟩
/-- a cell is changed -/
theorem STB.upd (s : STB F B0 C B σ H) {j : Nat} {c c' : Cell} {H' : Hp} (hj : C.o[j]? = some c) (e : c'.as = c.as) (k : ∀ a, a ∉ c.as → H' a = H a) (q : c'.P B H') : STB F B0 ⟨C.g, C.o.set j c'⟩ B σ H' := by
  have hc := s.own.at hj
  refine ⟨fun a o h => ?_, fun a o h => ?_, s.b0, s.nw, s.env, s.own.upd hj e k q⟩
  · rw [k a fun z => by rw [(hc.1 a z).1] at h; cases h]; exact s.fr a o h
  · rw [k a fun z => by rw [(hc.1 a z).2] at h; cases h]; exact s.bh a o h
theorem STB.set (s : STB F B0 C B σ H) (i : Nat) {r : Sl} {v : V} (q : r.P B v) : STB F B0 ⟨C.g.set i (some r), C.o⟩ B (σ.set i (some v)) H :=
  ⟨s.fr, s.bh, s.b0, s.nw, s.env.set (fun s e => by cases e; exact ⟨v, rfl, q⟩) i, s.own⟩
theorem STB.forget (s : STB F B0 C B σ H) (i : Nat) (x : Option V) : STB F B0 ⟨C.g.set i none, C.o⟩ B (σ.set i x) H :=
  ⟨s.fr, s.bh, s.b0, s.nw, s.env.set (fun s e => by cases e) i, s.own⟩
structure Le (C C' : Ct) : Prop where
  g : Sub C.g C'.g
  o : List.Sublist C'.o C.o
theorem STB.le (s : STB F B0 C B σ H) (l : Le C C') : STB F B0 C' B σ H := ⟨s.fr, s.bh, s.b0, s.nw, s.env.sub l.g, s.own.sub l.o⟩
end

/-! ### expressions -/
def XE (C : Ct) (te : TE) (R : Sl) (C' : Ct) : Prop := ∀ (F B0 : Hp) (σ : St) (B H : Hp) (Q : VK), STB F B0 C B σ H → (∀ v B' H', R.P B' v → Same B B' → STB F B0 C' B' σ H' → Q v H') → te σ H Q
def XT (C : Ct) (tt : TT) (b : Bool) (C' : Ct) : Prop := ∀ (F B0 : Hp) (σ : St) (B H : Hp) (Q : Bool → Hp → Prop), STB F B0 C B σ H → (∀ B' H', Same B B' → STB F B0 C' B' σ H' → Q b H') → tt σ H Q
def AllS : List Sl → Hp → List V → Prop
  | [], _, vs => vs = []
  | s :: ss, B, vs => ∃ v r, vs = v :: r ∧ s.P B v ∧ AllS ss B r
theorem AllS.mono {B B' : Hp} (e : Same B B') : ∀ {ss : List Sl} {vs : List V}, AllS ss B vs → AllS ss B' vs
  | [], _, h => h
  | s :: _, _, ⟨v, r, h1, h2, h3⟩ => ⟨v, r, h1, s.m e h2, AllS.mono e h3⟩
theorem AllS.len {B : Hp} : ∀ {ss : List Sl} {vs : List V}, AllS ss B vs → vs.length = ss.length
  | [], _, h => by
    have h' : _ = [] := h
    rw [h']; rfl
  | _ :: _, _, ⟨v, r, h1, h2, h3⟩ => by rw [h1]; simp [AllS.len h3]
def XA (C : Ct) (ta : TA) (Rs : List Sl) (C' : Ct) : Prop := ∀ (F B0 : Hp) (σ : St) (B H : Hp) (Q : List V → Hp → Prop), STB F B0 C B σ H → (∀ vs B' H', AllS Rs B' vs → Same B B' → STB F B0 C' B' σ H' → Q vs H') → ta σ H Q
end Fw

namespace Fw
open PySem PySem.Spec L2
open PySem.W (Datum DatumOrd Holds HoldAll SomeDatum)

/-! ### typed data and the library's data -/
instance instDTx : Datum (List Nat) where
  toD t := .str (S t)
  plain _ := rfl
  eqv a b := by
    simp only [PyData.eqv]
    rw [PySem.W.beq_decide]
    exact decide_eq_decide.mpr ⟨fun h => S_inj h, fun h => by rw [h]⟩
  depth := 0
  depth_le _ := Nat.le_refl _
instance : SomeDatum (List Nat) := ⟨fun _ => by show PyData.eqv .none (.str _) = false; simp only [PyData.eqv], fun _ => by show PyData.eqv (.str _) .none = false; simp only [PyData.eqv]⟩
class Rd (α : Type) [DecidableEq α] [Datum α] extends Rp α where
  hold : ∀ {X : Cx} {pins : List (Addr × Obj)} {σ : L2.St} {H : Hp} {s : Shared} {v : V} {u : Value} {a : α}, Inv X pins σ H s → is H v a → RelV v u → Holds s.heap u a
section
variable {X : Cx} {pins : List (Addr × Obj)} {σ : L2.St} {H : Hp} {s : Shared}
theorem holdAll {α : Type} [DecidableEq α] [Datum α] [Rd α] (I : Inv X pins σ H s) : ∀ {vs : List V} {us : List Value} {as : List α}, All2 (Rp.is H) vs as → Vals vs us → HoldAll s.heap us as
  | [], _, [], _, .nil => HoldAll.nil
  | _ :: _, _, _ :: _, ⟨h, t⟩, .cons r q => HoldAll.cons (Rd.hold I h r) (holdAll I t q)
theorem Inv.isList (I : Inv X pins σ H s) {p : Addr} {vs : List V} (h : H p = some (.lst vs)) : ∃ its : List Value, Vals vs its ∧ s.heap.IsList p its.toArray ∧ vs.length ≤ sizeLine := by
  obtain ⟨its, r, ⟨o, n, e, h1, h2, h3⟩, z⟩ := I.list (SqL.of h)
  exact ⟨its, r, ⟨o, e, h1, n, h3⟩, z⟩
theorem Inv.isTup (I : Inv X pins σ H s) {p : Addr} {vs : List V} (h : H p = some (.tup vs)) : ∃ its : List Value, Vals vs its ∧ s.heap.IsTuple p its.toArray := by
  obtain ⟨its, r, h1, z⟩ := I.tuple (SqT.of h)
  exact ⟨its, r, h1⟩
end
instance : Rd Int where
  hold _ h r := by
    have h' : _ = V.int _ := h
    subst h'; obtain ⟨t, rfl⟩ := r; exact PySem.W.holds_int _ _
instance : Rd Bool where
  hold _ h r := by
    have h' : _ = V.bl _ := h
    subst h'; cases r; exact PySem.W.holds_bool _
instance : Rd Unit where
  hold _ h r := by
    have h' : _ = V.non := h
    subst h'; cases r; exact PySem.W.holds_none
instance : Rd (List Nat) where
  hold _ h r := by
    have h' : _ = V.str _ := h
    subst h'; obtain ⟨t, rfl⟩ := r; exact ⟨_, PySem.Reads.str _ _⟩
instance {α : Type} [DecidableEq α] [Datum α] [SomeDatum α] [Rd α] : Rd (Option α) where
  hold {X pins σ H s v u a} I h r := by
    cases a with
    | none =>
      have h' : _ = V.non := h
      subst h'; cases r; exact PySem.W.holds_nothing
    | some a => exact PySem.W.holds_some (Rd.hold I h.2 r)
instance {α : Type} [DecidableEq α] [Datum α] [Rd α] : Rd (List α) where
  hold I h r := by
    obtain ⟨p, vs, rfl, h2, h3⟩ := h
    cases r
    obtain ⟨its, rv, hl, _⟩ := Inv.isList I h2
    exact PySem.W.holds_list hl (holdAll I h3 rv)
instance {α β : Type} [DecidableEq α] [Datum α] [Rd α] [DecidableEq β] [Datum β] [Rd β] : Rd (α × β) where
  hold I h r := by
    obtain ⟨p, x, y, rfl, h2, h3, h4⟩ := h
    cases r
    obtain ⟨its, rv, hl⟩ := Inv.isTup I h2
    cases rv with
    | cons r1 rv =>
      cases rv with
      | cons r2 rv =>
        cases rv
        exact PySem.W.holds_pair hl (Rd.hold I h3 r1) (Rd.hold I h4 r2)
instance {α β γ : Type} [DecidableEq α] [Datum α] [Rd α] [DecidableEq β] [Datum β] [Rd β] [DecidableEq γ] [Datum γ] [Rd γ] : Rd (PySem.W.T3 α β γ) where
  hold I h r := by
    obtain ⟨p, x, y, z, rfl, h2, h3, h4, h5⟩ := h
    cases r
    obtain ⟨its, rv, hl⟩ := Inv.isTup I h2
    cases rv with
    | cons r1 rv =>
      cases rv with
      | cons r2 rv =>
        cases rv with
        | cons r3 rv =>
          cases rv
          exact PySem.W.holds_t3 hl (Rd.hold I h3 r1) (Rd.hold I h4 r2) (Rd.hold I h5 r3)

/-! ### expressions: names, constants -/
section
variable {X : Cx} {C C1 C2 C3 : Ct} {te ta tb tc : TE} {R R' : Sl} {K : Fg} {k : Nat}
theorem x_var {i : Nat} (h : C.g[i]? = some (some R) := by rfl) : XE C (tVar i) R C := fun F B0 σ B H Q st q => by
  obtain ⟨v, h1, h2⟩ := st.env.get h
  exact ⟨v, h1, q v B H h2 (Same.refl B) st⟩
theorem x_c {v : V} (h : ∀ B, R.P B v) : XE C (tC v) R C := fun F B0 σ B H Q st q => q v B H (h B) (Same.refl B) st
theorem x_int {i : Int} : XE C (tC (.int i)) (isa i) C := x_c fun _ => rfl
theorem x_bl {i : Bool} : XE C (tC (.bl i)) (isa i) C := x_c fun _ => rfl
theorem x_non : XE C (tC .non) (isa ()) C := x_c fun _ => rfl
theorem x_str {x : Str} : XE C (tC (.str x)) (isa (x.cps.toList : Tx)) C := x_c fun _ => show V.str x = V.str (S x.cps.toList) by rw [S_of]
/-- another reading of the value -/
theorem XE.as (h : XE C te R C1) (k : ∀ B v, R.P B v → R'.P B v) : XE C te R' C1 := fun F B0 σ B H Q st q => h F B0 σ B H Q st fun v B' H' r s st' => q v B' H' (k B' v r) s st'
theorem XE.eq {α : Type} [Rp α] {x y : α} (h : XE C te (isa x) C1) (e : x = y) : XE C te (isa y) C1 := e ▸ h
class NN (α : Type) [Rp α] : Prop where
  nn : ∀ {B : Hp} {v : V} {x : α}, Rp.is B v x → v ≠ .non
instance : NN Int := ⟨fun h e => by have h' : _ = V.int _ := h; rw [e] at h'; cases h'⟩
instance : NN (List Nat) := ⟨fun h e => by have h' : _ = V.str _ := h; rw [e] at h'; cases h'⟩
instance {α : Type} [Rp α] : NN (List α) := ⟨fun ⟨_, _, h, _⟩ e => by rw [e] at h; cases h⟩
instance {α β : Type} [Rp α] [Rp β] : NN (α × β) := ⟨fun ⟨_, _, _, h, _⟩ e => by rw [e] at h; cases h⟩
theorem x_some {α : Type} [Rp α] [NN α] {x : α} (h : XE C te (isa x) C1) : XE C te (isa (some x)) C1 := h.as fun B v r => ⟨NN.nn (B := B) r, r⟩
theorem x_none {α : Type} [Rp α] (h : XE C te (isa ()) C1) : XE C te (isa (none : Option α)) C1 := h.as fun B v r => r

/-! ### operators -/
theorem xe_op {r : R2} {Ra Rb : Sl} (ha : XE C ta Ra C1) (hb : XE C1 tb Rb C2)
    (hr : ∀ (F B0 : Hp) (σ : L2.St) (B H : Hp) (x y : V) (Q : VK), STB F B0 C2 B σ H → Ra.P B x → Rb.P B y → (∀ v B' H', R.P B' v → Same B B' → STB F B0 C3 B' σ H' → Q v H') → r x y H Q) : XE C (tOp r ta tb) R C3 := fun F B0 σ B H Q st q =>
  ha F B0 σ B H _ st fun x B1 H1 rx e1 st1 => hb F B0 σ B1 H1 _ st1 fun y B2 H2 ry e2 st2 => hr F B0 σ B2 H2 x y Q st2 (Ra.m e2 rx) ry fun v B' H' rv e3 st3 => q v B' H' rv ((e1.trans e2).trans e3) st3
/-- .. whose answer needs no new object -/
theorem xe_op0 {r : R2} {Ra Rb : Sl} (ha : XE C ta Ra C1) (hb : XE C1 tb Rb C2) (hr : ∀ (B H : Hp) (x y : V) (Q : VK), Same B H → Ra.P B x → Rb.P B y → (∀ v, R.P B v → Q v H) → r x y H Q) : XE C (tOp r ta tb) R C2 :=
  xe_op ha hb fun F B0 σ B H x y Q st rx ry q => hr B H x y Q st.bh rx ry fun v rv => q v B H rv (Same.refl B) st
theorem xe_ii {g : Int → Int → V} {x y : Int} (ha : XE C ta (isa x) C1) (hb : XE C1 tb (isa y) C2) (h : ∀ B, R.P B (g x y)) : XE C (tOp (rI0 g) ta tb) R C2 :=
  xe_op0 ha hb fun B H v w Q _ rx ry q => ⟨x, y, rx, ry, q _ (h B)⟩
theorem xe_iic {cnd : Int → Int → Prop} {g : Int → Int → V} {x y : Int} (ha : XE C ta (isa x) C1) (hb : XE C1 tb (isa y) C2) (hc : cnd x y) (h : ∀ B, R.P B (g x y)) : XE C (tOp (rI cnd g) ta tb) R C2 :=
  xe_op0 ha hb fun B H v w Q _ rx ry q => ⟨x, y, rx, ry, hc, q _ (h B)⟩
section
variable {x y z : Int}
theorem x_add (ha : XE C ta (isa x) C1) (hb : XE C1 tb (isa y) C2) : XE C (tOp (rI0 fun i j => .int (i + j)) ta tb) (isa (x + y)) C2 := xe_ii ha hb fun _ => rfl
theorem x_sub (ha : XE C ta (isa x) C1) (hb : XE C1 tb (isa y) C2) : XE C (tOp (rI0 fun i j => .int (i - j)) ta tb) (isa (x - y)) C2 := xe_ii ha hb fun _ => rfl
theorem x_mul (ha : XE C ta (isa x) C1) (hb : XE C1 tb (isa y) C2) (hc : CMul x y) : XE C (tOp (rI CMul fun i j => .int (i * j)) ta tb) (isa (x * y)) C2 := xe_iic ha hb hc fun _ => rfl
theorem x_mod (ha : XE C ta (isa x) C1) (hb : XE C1 tb (isa y) C2) (hc : 0 < y) : XE C (tOp (rI (fun _ j => 0 < j) fun i j => .int (i % j)) ta tb) (isa (x % y)) C2 := xe_iic ha hb hc fun _ => rfl
theorem x_fdiv (ha : XE C ta (isa x) C1) (hb : XE C1 tb (isa y) C2) (hc : 0 < y ∧ y < 1073741824) : XE C (tOp (rI CDiv fun i j => .int (i / j)) ta tb) (isa (x / y)) C2 := xe_iic ha hb hc fun _ => rfl
theorem x_pow (ha : XE C ta (isa x) C1) (hb : XE C1 tb (isa y) C2) (hc : CPow x y) : XE C (tOp (rI CPow fun i j => .int (i ^ j.toNat)) ta tb) (isa (x ^ y.toNat)) C2 := xe_iic ha hb hc fun _ => rfl
theorem x_neg (ha : XE C ta (isa x) C1) : XE C (tUn (rU fun i => .int (-i)) ta) (isa (-x)) C1 := fun F B0 σ B H Q st q => ha F B0 σ B H _ st fun v B1 H1 rv e1 st1 => ⟨x, rv, q _ B1 H1 rfl e1 st1⟩
theorem x_lt (ha : XE C ta (isa x) C1) (hb : XE C1 tb (isa y) C2) : XE C (tOp (rI0 fun i j => .bl (decide (i < j))) ta tb) (isa (decide (x < y))) C2 := xe_ii ha hb fun _ => rfl
theorem x_le (ha : XE C ta (isa x) C1) (hb : XE C1 tb (isa y) C2) : XE C (tOp (rI0 fun i j => .bl (decide (i ≤ j))) ta tb) (isa (decide (x ≤ y))) C2 := xe_ii ha hb fun _ => rfl
theorem x_gt (ha : XE C ta (isa x) C1) (hb : XE C1 tb (isa y) C2) : XE C (tOp (rI0 fun i j => .bl (decide (j < i))) ta tb) (isa (decide (y < x))) C2 := xe_ii ha hb fun _ => rfl
theorem x_ge (ha : XE C ta (isa x) C1) (hb : XE C1 tb (isa y) C2) : XE C (tOp (rI0 fun i j => .bl (decide (j ≤ i))) ta tb) (isa (decide (y ≤ x))) C2 := xe_ii ha hb fun _ => rfl
end
/-- == of data of one type -/
def rEqT : R2 := fun x y H Q => ∃ (α : Type) (d1 : DecidableEq α) (d2 : Datum α) (d3 : Rd α) (a b : α), Datum.depth α ≤ 60 ∧ Rp.is H x a ∧ Rp.is H y b ∧ Q (.bl (decide (a = b))) H
def rNeT : R2 := fun x y H Q => ∃ (α : Type) (d1 : DecidableEq α) (d2 : Datum α) (d3 : Rd α) (a b : α), Datum.depth α ≤ 60 ∧ Rp.is H x a ∧ Rp.is H y b ∧ Q (.bl (!decide (a = b))) H
theorem op_eqT (hr : Room k X.A) : OpR X (compareOp .Eq) rEqT := by
  intro pins s σ H x y v u Q I rx ry h
  obtain ⟨α, d1, d2, d3, a, b, hd, ha, hb, q⟩ := h
  exact PySem.W.eq_datum (Rd.hold I ha rx) (Rd.hold I hb ry) (by have := hr.un; omega) ⟨.bl _, H, I, rfl, q⟩
theorem op_neT (hr : Room k X.A) : OpR X (compareOp .NotEq) rNeT := by
  intro pins s σ H x y v u Q I rx ry h
  obtain ⟨α, d1, d2, d3, a, b, hd, ha, hb, q⟩ := h
  refine PySem.W.ne_datum (Rd.hold I ha rx) (Rd.hold I hb ry) (by have := hr.un; omega) ⟨.bl (!decide (a = b)), H, I, ?_, q⟩
  show Value.bool (decide (a ≠ b)) = Value.bool (!decide (a = b))
  rw [decide_not]
section
variable {α : Type} [DecidableEq α] [Datum α] [Rd α]
theorem x_eq {x y : α} (ha : XE C ta (isa x) C1) (hb : XE C1 tb (isa y) C2) (hd : Datum.depth α ≤ 60 := by decide) : XE C (tOp rEqT ta tb) (isa (decide (x = y))) C2 :=
  xe_op0 ha hb fun B H v w Q e rx ry q => ⟨α, _, _, inferInstance, x, y, hd, Rp.mono e rx, Rp.mono e ry, q _ rfl⟩
theorem x_ne {x y : α} (ha : XE C ta (isa x) C1) (hb : XE C1 tb (isa y) C2) (hd : Datum.depth α ≤ 60 := by decide) : XE C (tOp rNeT ta tb) (isa (!decide (x = y))) C2 :=
  xe_op0 ha hb fun B H v w Q e rx ry q => ⟨α, _, _, inferInstance, x, y, hd, Rp.mono e rx, Rp.mono e ry, q _ rfl⟩
/-- in a list that stands -/
def rInT : R2 := fun x y H Q => ∃ (α : Type) (d1 : DecidableEq α) (d2 : Datum α) (d3 : Rd α) (a : α) (b : List α), Datum.depth α ≤ 60 ∧ Rp.is H x a ∧ Rp.is H y b ∧ Q (.bl (decide (a ∈ b))) H
def rNiT : R2 := fun x y H Q => ∃ (α : Type) (d1 : DecidableEq α) (d2 : Datum α) (d3 : Rd α) (a : α) (b : List α), Datum.depth α ≤ 60 ∧ Rp.is H x a ∧ Rp.is H y b ∧ Q (.bl (!decide (a ∈ b))) H
theorem op_inT (hr : Room k X.A) : OpR X (compareOp .In) rInT := by
  intro pins s σ H x y v u Q I rx ry h
  obtain ⟨α, d1, d2, d3, a, b, hd, ha, ⟨p, vs, rfl, hp, hb⟩, q⟩ := h
  cases ry
  obtain ⟨its, rv, hl, _⟩ := Inv.isList I hp
  exact PySem.W.in_list_datum hl (holdAll I hb rv) (Rd.hold I ha rx) (by have := hr.un; omega) ⟨.bl _, H, I, rfl, q⟩
theorem op_niT (hr : Room k X.A) : OpR X (compareOp .NotIn) rNiT := by
  intro pins s σ H x y v u Q I rx ry h
  obtain ⟨α, d1, d2, d3, a, b, hd, ha, ⟨p, vs, rfl, hp, hb⟩, q⟩ := h
  cases ry
  obtain ⟨its, rv, hl, _⟩ := Inv.isList I hp
  refine PySem.W.notIn_list_datum hl (holdAll I hb rv) (Rd.hold I ha rx) (by have := hr.un; omega) ⟨.bl (!decide (a ∈ b)), H, I, ?_, q⟩
  show Value.bool (decide (a ∉ b)) = Value.bool (!decide (a ∈ b))
  rw [decide_not]
theorem x_inL {x : α} {y : List α} (ha : XE C ta (isa x) C1) (hb : XE C1 tb (isa y) C2) (hd : Datum.depth α ≤ 60 := by decide) : XE C (tOp rInT ta tb) (isa (decide (x ∈ y))) C2 :=
  xe_op0 ha hb fun B H v w Q e rx ry q => ⟨α, _, _, inferInstance, x, y, hd, Rp.mono e rx, Rp.mono e ry, q _ rfl⟩
theorem x_niL {x : α} {y : List α} (ha : XE C ta (isa x) C1) (hb : XE C1 tb (isa y) C2) (hd : Datum.depth α ≤ 60 := by decide) : XE C (tOp rNiT ta tb) (isa (!decide (x ∈ y))) C2 :=
  xe_op0 ha hb fun B H v w Q e rx ry q => ⟨α, _, _, inferInstance, x, y, hd, Rp.mono e rx, Rp.mono e ry, q _ rfl⟩
end
/-- x is None -/
abbrev rIsN' : R2 := fun x y H Q => y = .non ∧ Q (.bl (decide (x = .non))) H
abbrev rNotN' : R2 := fun x y H Q => y = .non ∧ Q (.bl (!decide (x = .non))) H
theorem x_isN {α : Type} [Rp α] {x : Option α} (ha : XE C ta (isa x) C1) : XE C (tOp rIsN' ta (tC .non)) (isa x.isNone) C1 :=
  xe_op0 (Rb := isa ()) ha (x_c fun _ => rfl) fun B H v w Q e rx ry q => ⟨ry, q _ (by
    cases x with
    | none =>
      have h' : v = .non := rx
      subst h'; rfl
    | some x => exact congrArg V.bl (decide_eq_false rx.1))⟩
theorem x_notN {α : Type} [Rp α] {x : Option α} (ha : XE C ta (isa x) C1) : XE C (tOp rNotN' ta (tC .non)) (isa x.isSome) C1 :=
  xe_op0 (Rb := isa ()) ha (x_c fun _ => rfl) fun B H v w Q e rx ry q => ⟨ry, q _ (by
    cases x with
    | none =>
      have h' : v = .non := rx
      subst h'; rfl
    | some x =>
      show V.bl (!decide (v = .non)) = V.bl true
      rw [decide_eq_false rx.1]; rfl)⟩
/-! ### and, or, not; tests -/
section
variable {a b : Bool} {t u : TT}
theorem x_not (h : XE C ta (isa a) C1) : XE C (tNotV ta) (isa (!a)) C1 := fun F B0 σ B H Q st q => h F B0 σ B H _ st fun v B1 H1 rv e1 st1 => ⟨a, rv, q _ B1 H1 rfl e1 st1⟩
theorem x_and (ha : XE C ta (isa a) C) (hb : a = true → XE C tb (isa b) C) : XE C (tAndV ta tb) (isa (a && b)) C := fun F B0 σ B H Q st q => ha F B0 σ B H _ st fun v B1 H1 rv e1 st1 => ⟨a, rv, by
    cases a with
    | true => exact hb rfl F B0 σ B1 H1 _ st1 fun v B2 H2 rv e2 st2 => q v B2 H2 rv (e1.trans e2) st2
    | false => exact q _ B1 H1 rfl e1 st1⟩
theorem x_or (ha : XE C ta (isa a) C) (hb : a = false → XE C tb (isa b) C) : XE C (tOrV ta tb) (isa (a || b)) C := fun F B0 σ B H Q st q => ha F B0 σ B H _ st fun v B1 H1 rv e1 st1 => ⟨a, rv, by
    cases a with
    | false => exact hb rfl F B0 σ B1 H1 _ st1 fun v B2 H2 rv e2 st2 => q v B2 H2 rv (e1.trans e2) st2
    | true => exact q _ B1 H1 rfl e1 st1⟩
theorem t_v (h : XE C ta (isa a) C1) : XT C (tB ta) a C1 := fun F B0 σ B H Q st q => h F B0 σ B H _ st fun v B1 H1 rv e1 st1 => ⟨a, rv, q B1 H1 e1 st1⟩
theorem t_not (h : XT C t a C1) : XT C (tNot t) (!a) C1 := fun F B0 σ B H Q st q => h F B0 σ B H _ st fun B1 H1 e1 st1 => q B1 H1 e1 st1
theorem t_and (h : XT C t a C) (hb : a = true → XT C u b C) : XT C (tAnd t u) (a && b) C := fun F B0 σ B H Q st q => h F B0 σ B H _ st fun B1 H1 e1 st1 => by
    cases a with
    | true => exact hb rfl F B0 σ B1 H1 _ st1 fun B2 H2 e2 st2 => q B2 H2 (e1.trans e2) st2
    | false => exact q B1 H1 e1 st1
theorem t_or (h : XT C t a C) (hb : a = false → XT C u b C) : XT C (tOr t u) (a || b) C := fun F B0 σ B H Q st q => h F B0 σ B H _ st fun B1 H1 e1 st1 => by
    cases a with
    | false => exact hb rfl F B0 σ B1 H1 _ st1 fun B2 H2 e2 st2 => q B2 H2 (e1.trans e2) st2
    | true => exact q B1 H1 e1 st1
theorem x_ite {α : Type} [Rp α] {x y : α} (h : XT C t a C) (h1 : a = true → XE C ta (isa x) C) (h2 : a = false → XE C tb (isa y) C) : XE C (tIf t ta tb) (isa (if a = true then x else y)) C := fun F B0 σ B H Q st q => h F B0 σ B H _ st fun B1 H1 e1 st1 => by
    cases a with
    | true => exact h1 rfl F B0 σ B1 H1 _ st1 fun v B2 H2 rv e2 st2 => q v B2 H2 rv (e1.trans e2) st2
    | false => exact h2 rfl F B0 σ B1 H1 _ st1 fun v B2 H2 rv e2 st2 => q v B2 H2 rv (e1.trans e2) st2
end
/-! ### a < b < c -/
theorem x_chain {g g' : Int → Int → Bool} {x y z : Int} (ha : XE C ta (isa x) C) (hb : XE C tb (isa y) C) (hc : XE C tc (isa z) C) :
    XE C (tChain (rI0 fun i j => .bl (g i j)) (rI0 fun i j => .bl (g' i j)) ta tb tc) (isa (g x y && g' y z)) C := fun F B0 σ B H Q st q =>
  ha F B0 σ B H _ st fun v B1 H1 rv e1 st1 => hb F B0 σ B1 H1 _ st1 fun w B2 H2 rw' e2 st2 => ⟨x, y, rv, rw', g x y, rfl, by
    cases e : g x y with
    | true => exact hc F B0 σ B2 H2 _ st2 fun u B3 H3 ru e3 st3 => ⟨y, z, rw', ru, q _ B3 H3 (show V.bl (g' y z) = V.bl (g x y && g' y z) by rw [e]; rfl) ((e1.trans e2).trans e3) st3⟩
    | false => exact q _ B2 H2 (show V.bl false = V.bl (g x y && g' y z) by rw [e]; rfl) (e1.trans e2) st2⟩
theorem t_t {a : Bool} (h : XE C ta (isa a) C1) : XT C (tTest ta) a C1 := fun F B0 σ B H Q st q => h F B0 σ B H _ st fun v B1 H1 rv e1 st1 => ⟨a, rv, q B1 H1 e1 st1⟩
/-! ### arguments; displays -/
theorem a_nil : XA C tNil [] C := fun F B0 σ B H Q st q => q [] B H rfl (Same.refl B) st
theorem a_cons {tr : TA} {Rs : List Sl} (h : XE C te R C1) (hr : XA C1 tr Rs C2) : XA C (tCons te tr) (R :: Rs) C2 := fun F B0 σ B H Q st q => h F B0 σ B H _ st fun v B1 H1 rv e1 st1 =>
  hr F B0 σ B1 H1 _ st1 fun vs B2 H2 rvs e2 st2 => q (v :: vs) B2 H2 ⟨v, vs, rfl, R.m e2 rv, rvs⟩ (e1.trans e2) st2
theorem allS_map {α : Type} [Rp α] {B : Hp} : ∀ {xs : List α} {vs : List V}, AllS (xs.map isa) B vs → All2 (Rp.is B) vs xs
  | [], vs, h => by
    have h' : vs = [] := h
    rw [h']; trivial
  | _ :: _, _, ⟨v, r, h1, h2, h3⟩ => by rw [h1]; exact ⟨h2, allS_map h3⟩
theorem mapS_nil {α : Type} [Rp α] : ([] : List α).map isa = [] := rfl
/-- a list display, for good: Rs is xs.map isa -/
theorem x_lst {α : Type} [Rp α] {ta : TA} {xs : List α} (h : XA C ta (xs.map isa) C1) (hz : xs.length ≤ 16777216 := by decide) : XE C (tLst ta) (isa xs) C1 := fun F B0 σ B H Q st q => h F B0 σ B H _ st fun vs B1 H1 rv e1 st1 =>
  ⟨by rw [(allS_map rv).len, sizeLine_eq]; exact hz, fun p hp => q _ _ _ ⟨p, vs, rfl, upd_same, (allS_map rv).imp fun _ _ z => Rp.mono (same_new (st1.bh.free hp)) z⟩ (e1.trans (same_new (st1.bh.free hp))) (st1.new hp _)⟩
/-- a tuple of two, of three -/
theorem x_tup2 {α β : Type} [Rp α] [Rp β] {x : α} {y : β} {ta : TA} (h : XA C ta [isa x, isa y] C1) : XE C (tTup ta) (isa (x, y)) C1 := fun F B0 σ B H Q st q => h F B0 σ B H _ st fun vs B1 H1 rv e1 st1 => by
  obtain ⟨v, r, rfl, h1, w, r2, rfl, h2, h3⟩ := rv
  have h3' : r2 = [] := h3
  subst h3'
  refine ⟨by show 2 ≤ sizeLine; decide, fun p hp => ?_⟩
  have e := same_new (o := .tup [v, w]) (st1.bh.free hp)
  exact q _ _ _ ⟨p, v, w, rfl, upd_same, Rp.mono e h1, Rp.mono e h2⟩ (e1.trans e) (st1.new hp _)
theorem x_tup3 {α β γ : Type} [Rp α] [Rp β] [Rp γ] {x : α} {y : β} {z : γ} {ta : TA} (h : XA C ta [isa x, isa y, isa z] C1) : XE C (tTup ta) (isa (PySem.W.T3.mk x y z)) C1 := fun F B0 σ B H Q st q => h F B0 σ B H _ st fun vs B1 H1 rv e1 st1 => by
  obtain ⟨v, r, rfl, h1, w, r2, rfl, h2, u, r3, rfl, h3, h4⟩ := rv
  have h4' : r3 = [] := h4
  subst h4'
  refine ⟨by show 3 ≤ sizeLine; decide, fun p hp => ?_⟩
  have e := same_new (o := .tup [v, w, u]) (st1.bh.free hp)
  exact q _ _ _ ⟨p, v, w, u, rfl, upd_same, Rp.mono e h1, Rp.mono e h2, Rp.mono e h3⟩ (e1.trans e) (st1.new hp _)
/-! ### subscripts, slices, lengths -/
def ixI {β : Type} [Inhabited β] (xs : List β) (i : Int) : β := (atI xs i).getD default
theorem atI_some {β : Type} {xs : List β} {i : Int} (h1 : -(xs.length : Int) ≤ i) (h2 : i < xs.length) : ∃ j, ixN xs.length i = some j ∧ ∃ x, xs[j]? = some x ∧ atI xs i = some x := by
  by_cases h0 : 0 ≤ i
  · have e : ixN xs.length i = some i.toNat := by unfold ixN; rw [if_pos h0, if_pos h2]
    have hl : i.toNat < xs.length := by omega
    exact ⟨_, e, xs[i.toNat], List.getElem?_eq_getElem hl, by unfold atI; rw [e]; exact List.getElem?_eq_getElem hl⟩
  · have e : ixN xs.length i = some (i + xs.length).toNat := by unfold ixN; rw [if_neg h0, if_pos h1]
    have hl : (i + xs.length).toNat < xs.length := by omega
    exact ⟨_, e, xs[(i + xs.length).toNat], List.getElem?_eq_getElem hl, by unfold atI; rw [e]; exact List.getElem?_eq_getElem hl⟩
theorem atI_all2 {α β : Type} {r : α → β → Prop} [Inhabited β] {vs : List α} {xs : List β} {i : Int} (h : All2 r vs xs) (h1 : -(xs.length : Int) ≤ i) (h2 : i < xs.length) : ∃ v, atI vs i = some v ∧ r v (ixI xs i) := by
  obtain ⟨j, e, x, hx, ha⟩ := atI_some h1 h2
  obtain ⟨v, hv, q⟩ := h.get hx
  refine ⟨v, by unfold atI; rw [h.len, e]; exact hv, ?_⟩
  unfold ixI; rw [ha]; exact q
def Ib (n : Nat) (i : Int) : Prop := -(n : Int) ≤ i ∧ i < n
theorem x_ixL {α : Type} [Rp α] [Inhabited α] {xs : List α} {i : Int} (ha : XE C ta (isa xs) C1) (hb : XE C1 tb (isa i) C2) (hi : Ib xs.length i) : XE C (tOp (rIxL K) ta tb) (isa (ixI xs i)) C2 :=
  xe_op0 ha hb fun B H v w Q e rx ry q => by
    obtain ⟨p, vs, rfl, hp, hv⟩ := rx
    obtain ⟨u, hu, ru⟩ := atI_all2 hv hi.1 hi.2
    exact ⟨p, vs, i, u, rfl, ry, SqL.of (e _ _ hp), hu, q _ ru⟩
/-- of an owned list -/
theorem x_ixO {α : Type} [Rp α] [Inhabited α] {xs : List α} {i : Int} {p : Addr} (j : Nat) (ha : XE C ta (isr p) C1) (hb : XE C1 tb (isa i) C2) (hi : Ib xs.length i) (hj : C2.o[j]? = some (lstC p xs) := by rfl) : XE C (tOp (rIxL K) ta tb) (isa (ixI xs i)) C2 :=
  xe_op ha hb fun F B0 σ B H v w Q st rx ry q => by
    have rx' : v = .ref p := rx
    subst rx'
    obtain ⟨vs, hp, hv⟩ := (st.own.at hj).2
    obtain ⟨u, hu, ru⟩ := atI_all2 hv hi.1 hi.2
    exact ⟨p, vs, i, u, rfl, ry, SqL.of hp, hu, q _ B H ru (Same.refl B) st⟩
def ixS (t : Tx) (i : Int) : Tx := [(atI t i).getD 0]
theorem x_ixS {t : Tx} {i : Int} (ha : XE C ta (isa t) C1) (hb : XE C1 tb (isa i) C2) (hi : Ib t.length i) (hz : t.length ≤ 16777216) : XE C (tOp rIxS ta tb) (isa (ixS t i)) C2 :=
  xe_op0 ha hb fun B H v w Q e rx ry q => by
    obtain ⟨j, e, x, hx, hA⟩ := atI_some hi.1 hi.2
    refine ⟨S t, i, x, rx, ry, by rw [S_len, sizeLine_eq]; exact hz, hA, q _ ?_⟩
    show V.str ⟨#[x]⟩ = V.str (S (ixS t i))
    unfold ixS; rw [hA]; rfl
theorem x_tupF {α β : Type} [Rp α] [Rp β] {x : α × β} (ha : XE C ta (isa x) C1) : XE C (tOp (rIxT K) ta (tC (.int 0))) (isa x.1) C1 :=
  xe_op0 ha x_int fun B H v w Q e rx ry q => by
    obtain ⟨p, a, b, rfl, hp, h1, h2⟩ := rx
    exact ⟨p, _, 0, a, rfl, ry, SqT.of (e _ _ hp), rfl, q _ h1⟩
theorem x_tupS {α β : Type} [Rp α] [Rp β] {x : α × β} (ha : XE C ta (isa x) C1) : XE C (tOp (rIxT K) ta (tC (.int 1))) (isa x.2) C1 :=
  xe_op0 ha x_int fun B H v w Q e rx ry q => by
    obtain ⟨p, a, b, rfl, hp, h1, h2⟩ := rx
    exact ⟨p, _, 1, b, rfl, ry, SqT.of (e _ _ hp), rfl, q _ h2⟩
/-- slices -/
def XO (C : Ct) (to : TO) (o : Option Int) (C' : Ct) : Prop := ∀ (F B0 : Hp) (σ : L2.St) (B H : Hp) (Q : Option Int → Hp → Prop), STB F B0 C B σ H → (∀ B' H', Same B B' → STB F B0 C' B' σ H' → Q o H') → to σ H Q
theorem o_none : XO C tNoPart none C := fun F B0 σ B H Q st q => q B H (Same.refl B) st
theorem o_some {i : Int} (h : XE C te (isa i) C1) : XO C (tPart te) (some i) C1 := fun F B0 σ B H Q st q => h F B0 σ B H _ st fun v B1 H1 rv e1 st1 => ⟨i, rv, q B1 H1 e1 st1⟩
def cut {β : Type} (xs : List β) (lo hi : Option Int) : List β := (xs.drop (HT.sIx xs.length 0 lo)).take (HT.sIx xs.length xs.length hi - HT.sIx xs.length 0 lo)
theorem cut_len {β : Type} (xs : List β) (lo hi : Option Int) : (cut xs lo hi).length ≤ xs.length := by unfold cut; rw [List.length_take, List.length_drop]; omega
theorem x_slL {α : Type} [Rp α] {xs : List α} {tl th : TO} {lo hi : Option Int} (ha : XE C ta (isa xs) C) (hl : XO C tl lo C) (hh : XO C th hi C) : XE C (tSl (rSlL K) ta tl th) (isa (cut xs lo hi)) C := fun F B0 σ B H Q st q =>
  ha F B0 σ B H _ st fun v B1 H1 rv e1 st1 => hl F B0 σ B1 H1 _ st1 fun B2 H2 e2 st2 => hh F B0 σ B2 H2 _ st2 fun B3 H3 e3 st3 => by
    obtain ⟨p, vs, rfl, hp, hv⟩ := rv
    have hp3 := e3 _ _ (e2 _ _ hp)
    refine ⟨p, vs, rfl, SqL.of (st3.bh _ _ hp3), fun l hl => ?_⟩
    have e := same_new (o := .lst (cutV vs lo hi)) (st3.bh.free hl)
    refine q _ _ _ ⟨l, _, rfl, upd_same, ?_⟩ (((e1.trans e2).trans e3).trans e) (st3.new hl _)
    have h1 : All2 (Rp.is B1) (cutV vs lo hi) (cut xs lo hi) := by
      unfold cutV cut; rw [hv.len]; exact (hv.drop _).take _
    exact h1.imp fun _ _ z => Rp.mono ((e2.trans e3).trans e) z
theorem x_slS {t : Tx} {tl th : TO} {lo hi : Option Int} (ha : XE C ta (isa t) C) (hl : XO C tl lo C) (hh : XO C th hi C) (hz : t.length ≤ 16777216) : XE C (tSl rSlS ta tl th) (isa (cut t lo hi)) C := fun F B0 σ B H Q st q =>
  ha F B0 σ B H _ st fun v B1 H1 rv e1 st1 => hl F B0 σ B1 H1 _ st1 fun B2 H2 e2 st2 => hh F B0 σ B2 H2 _ st2 fun B3 H3 e3 st3 => by
    refine ⟨S t, rv, by rw [S_len, sizeLine_eq]; exact hz, q _ B3 H3 ?_ ((e1.trans e2).trans e3) st3⟩
    show V.str (cutS (S t) lo hi) = V.str (S (cut t lo hi))
    unfold cutS cut S Str.length
    simp
abbrev rLenQ (K : Fg) : List V → Hp → VK → Prop := fun xs H Q => ∃ p ys, xs = [.ref p] ∧ (SqL K H p ys ∨ SqT K H p ys) ∧ Q (.int ys.length) H
abbrev rLenZ : List V → Hp → VK → Prop := fun xs H Q => ∃ z, xs = [.str z] ∧ z.length ≤ sizeLine ∧ Q (.int z.length) H
abbrev rLenY : List V → Hp → VK → Prop := fun xs H Q => ∃ a kvs, xs = [V.ref a] ∧ H a = some (.dK kvs) ∧ Q (.int kvs.length) H
theorem xe_cb {r : List V → Hp → VK → Prop} {ta : TA} {Rs : List Sl} (h : XA C ta Rs C1) (hr : ∀ (F B0 : Hp) (σ : L2.St) (B H : Hp) (vs : List V) (Q : VK), STB F B0 C1 B σ H → AllS Rs B vs → (∀ v B' H', R.P B' v → Same B B' → STB F B0 C2 B' σ H' → Q v H') → r vs H Q) : XE C (tCB r ta) R C2 := fun F B0 σ B H Q st q =>
  h F B0 σ B H _ st fun vs B1 H1 rv e1 st1 => hr F B0 σ B1 H1 vs Q st1 rv fun v B2 H2 r2 e2 st2 => q v B2 H2 r2 (e1.trans e2) st2
theorem xe_cb1 {r : List V → Hp → VK → Prop} {Ra : Sl} (h : XE C ta Ra C1) (hr : ∀ (F B0 : Hp) (σ : L2.St) (B H : Hp) (v : V) (Q : VK), STB F B0 C1 B σ H → Ra.P B v → (∀ v B' H', R.P B' v → Same B B' → STB F B0 C2 B' σ H' → Q v H') → r [v] H Q) : XE C (tCB r (tCons ta tNil)) R C2 :=
  xe_cb (a_cons h a_nil) fun F B0 σ B H vs Q st rv q => by
    obtain ⟨v, r2, rfl, h1, h2⟩ := rv
    have h2' : r2 = [] := h2
    subst h2'
    exact hr F B0 σ B H v Q st h1 q
theorem x_lenL {α : Type} [Rp α] {xs : List α} (h : XE C ta (isa xs) C1) : XE C (tCB (rLenQ K) (tCons ta tNil)) (isa (xs.length : Int)) C1 := xe_cb1 h fun F B0 σ B H v Q st rv q => by
  obtain ⟨p, vs, rfl, hp, hv⟩ := rv
  exact ⟨p, vs, rfl, .inl (SqL.of (st.bh _ _ hp)), q _ B H (congrArg (fun n : Nat => V.int n) hv.len) (Same.refl B) st⟩
theorem x_lenO {α : Type} [Rp α] {xs : List α} {p : Addr} (j : Nat) (h : XE C ta (isr p) C1) (hj : C1.o[j]? = some (lstC p xs) := by rfl) : XE C (tCB (rLenQ K) (tCons ta tNil)) (isa (xs.length : Int)) C1 := xe_cb1 h fun F B0 σ B H v Q st rv q => by
  have rx' : v = .ref p := rv
  subst rx'
  obtain ⟨vs, hp, hv⟩ := (st.own.at hj).2
  exact ⟨p, vs, rfl, .inl (SqL.of hp), q _ B H (congrArg (fun n : Nat => V.int n) hv.len) (Same.refl B) st⟩
theorem x_lenS {t : Tx} (h : XE C ta (isa t) C1) (hz : t.length ≤ 16777216) : XE C (tCB rLenZ (tCons ta tNil)) (isa (t.length : Int)) C1 := xe_cb1 h fun F B0 σ B H v Q st rv q =>
  ⟨S t, congrArg (fun z => [z]) rv, by rw [S_len, sizeLine_eq]; exact hz, q _ B H (congrArg (fun n : Nat => V.int n) (S_len t)) (Same.refl B) st⟩
/-! ### texts -/
abbrev rAddZ : R2 := fun x y H Q => ∃ i j, x = .str i ∧ y = .str j ∧ i.length + j.length ≤ sizeLine ∧ Q (.str (i ++ j)) H
theorem x_addS {t u : Tx} (ha : XE C ta (isa t) C1) (hb : XE C1 tb (isa u) C2) (hz : t.length + u.length ≤ 16777216) : XE C (tOp rAddZ ta tb) (isa (t ++ u)) C2 :=
  xe_op0 ha hb fun B H v w Q e rx ry q => ⟨S t, S u, rx, ry, by rw [S_len, S_len, sizeLine_eq]; exact hz, q _ (by
    show V.str (S t ++ S u) = V.str (S (t ++ u))
    show V.str ⟨t.toArray ++ u.toArray⟩ = V.str ⟨(t ++ u).toArray⟩
    simp)⟩
end
end Fw

namespace Fw
open PySem PySem.Spec L2
open PySem.W (Datum DatumOrd Holds HoldAll SomeDatum)

/-! ### new owned things -/
def XN (C : Ct) (te : TE) (c : Addr → Cell) (C' : Ct) : Prop := ∀ (F B0 : Hp) (σ : L2.St) (B H : Hp) (Q : VK), STB F B0 C B σ H → (∀ p B' H', Same B B' → STB F B0 ⟨C'.g, c p :: C'.o⟩ B' σ H' → Q (.ref p) H') → te σ H Q
section
variable {F B0 : Hp} {C C' : Ct} {B : Hp} {σ : L2.St} {H : Hp}
theorem Own.erase {F B H : Hp} : ∀ {cs : List Cell} {j : Nat} {c : Cell} {B' : Hp}, Own F B H cs → cs[j]? = some c → Same B B' → (∀ a, a ∉ c.as → B' a = B a) → Own F B' H (cs.eraseIdx j)
  | [], j, c, _, _, h, _, _ => by simp at h
  | d :: cs, 0, c, B', ⟨h1, h2, h3, h4⟩, h, e, k => by
    have h : d = c := by simpa using h
    subst h
    exact h4.imp e fun x hx a ha => ⟨rfl, ((h4.mem hx).1 a ha).1, (k a fun z => h3 x hx a z ha).trans ((h4.mem hx).1 a ha).2⟩
  | d :: cs, j + 1, c, B', ⟨h1, h2, h3, h4⟩, h, e, k => by
    have h : cs[j]? = some c := by simpa using h
    have hm := List.mem_of_getElem? h
    exact ⟨fun a ha => ⟨(h1 a ha).1, (k a fun z => h3 c hm a ha z).trans (h1 a ha).2⟩, d.mono e h2, fun x hx => h3 x (List.mem_of_mem_eraseIdx hx), Own.erase h4 h e k⟩
/-- an owned object becomes a thing that stands -/
theorem STB.frz (s : STB F B0 C B σ H) {j : Nat} {c : Cell} {p : Addr} {o : HO} (hj : C.o[j]? = some c) (ha : c.as = [p]) (hp : H p = some o) : STB F B0 ⟨C.g, C.o.eraseIdx j⟩ (L2.upd B p o) σ H ∧ Same B (L2.upd B p o) := by
  have hc := s.own.at hj
  have hB : B p = none := (hc.1 p (by rw [ha]; simp)).2
  have hF : F p = none := (hc.1 p (by rw [ha]; simp)).1
  have e : Same B (L2.upd B p o) := same_new hB
  refine ⟨⟨s.fr, fun a x hx => ?_, s.b0.trans e, fun a hx => ?_, s.env.mono e, s.own.erase hj e fun a hx => upd_ne fun z => hx (by rw [ha, z]; simp)⟩, e⟩
  · by_cases h : a = p
    · subst h; rw [upd_same] at hx; rw [hp]; exact hx
    · rw [upd_ne h] at hx; exact s.bh a x hx
  · by_cases h : a = p
    · subst h; exact .inr hF
    · rw [upd_ne h] at hx; exact s.nw a hx
end
section
variable {X : Cx} {C C1 C2 C3 : Ct} {te ta tb tc : TE} {R R' : Sl} {K : Fg} {k : Nat}
theorem XN.frz {α : Type} [Rp α] {xs : List α} (h : XN C te (fun p => lstC p xs) C1) : XE C te (isa xs) C1 := fun F B0 σ B H Q st q => h F B0 σ B H Q st fun p B' H' e st' => by
  obtain ⟨vs, hp, hv⟩ := (st'.own.at (j := 0) rfl).2
  obtain ⟨st2, e2⟩ := st'.frz (j := 0) rfl rfl hp
  exact q _ _ _ ⟨p, vs, rfl, upd_same, hv.imp fun _ _ z => Rp.mono e2 z⟩ (e.trans e2) st2
theorem XN.frzD {κ β : Type} [Ky κ] [Rp β] {xs : List (κ × β)} (h : XN C te (fun p => dicC p xs) C1) : XE C te (isa (Dc.mk xs)) C1 := fun F B0 σ B H Q st q => h F B0 σ B H Q st fun p B' H' e st' => by
  obtain ⟨vs, hp, hv⟩ := (st'.own.at (j := 0) rfl).2
  obtain ⟨st2, e2⟩ := st'.frz (j := 0) rfl rfl hp
  exact q _ _ _ ⟨p, vs, rfl, upd_same, hv.imp fun _ _ z => ⟨z.1, Rp.mono e2 z.2⟩⟩ (e.trans e2) st2
/-- a variable that holds an owned list, read for good -/
theorem x_frz {α : Type} [Rp α] {xs : List α} {i : Nat} {p : Addr} (j : Nat) (hi : C.g[i]? = some (some (isr p)) := by rfl) (hj : C.o[j]? = some (lstC p xs) := by rfl) : XE C (tVar i) (isa xs) ⟨C.g.set i (some (isa xs)), C.o.eraseIdx j⟩ := fun F B0 σ B H Q st q => by
  obtain ⟨v, h1, h2⟩ := st.env.get hi
  have h2' : v = .ref p := h2
  subst h2'
  obtain ⟨vs, hp, hv⟩ := (st.own.at hj).2
  obtain ⟨st2, e2⟩ := st.frz hj rfl hp
  have r : Rp.is (upd B p (.lst vs)) (V.ref p) xs := ⟨p, vs, rfl, upd_same, hv.imp fun _ _ z => Rp.mono e2 z⟩
  have st3 := st2.set i (r := isa xs) r
  have e : σ.set i (some (V.ref p)) = σ := by
    apply List.ext_getElem?
    intro n
    by_cases hn : i = n
    · subst hn
      have hl := (List.getElem?_eq_some_iff.mp h1).1
      rw [List.getElem?_set_self hl, h1]
    · rw [List.getElem?_set_ne hn]
  rw [e] at st3
  exact ⟨_, h1, q _ _ _ r e2 st3⟩
theorem n_lst {α : Type} [Rp α] {ta : TA} {xs : List α} (h : XA C ta (xs.map isa) C1) (hz : xs.length ≤ 16777216 := by decide) : XN C (tLst ta) (fun p => lstC p xs) C1 := fun F B0 σ B H Q st q => h F B0 σ B H _ st fun vs B1 H1 rv e1 st1 =>
  ⟨by rw [(allS_map rv).len, sizeLine_eq]; exact hz, fun p hp => q p B1 _ e1 (st1.newO hp _ rfl fun H' h' => ⟨vs, h', allS_map rv⟩)⟩
theorem n_nil {α : Type} [Rp α] : XN C (tLst tNil) (fun p => lstC p ([] : List α)) C := n_lst (xs := []) a_nil (Nat.zero_le _)
theorem n_dic {κ β : Type} [Ky κ] [Rp β] : XN C tDNewK (fun p => dicC p ([] : List (κ × β))) C := fun F B0 σ B H Q st q => fun p hp => q p B _ (Same.refl B) (st.newO hp _ rfl fun H' h' => ⟨[], h', trivial⟩)
/-- list(xs) -/
abbrev rListQ (K : Fg) : List V → Hp → VK → Prop := fun xs H Q => ∃ p ys, xs = [.ref p] ∧ (SqL K H p ys ∨ SqT K H p ys) ∧ ∀ l, H l = none → Q (.ref l) (upd H l (.lst ys))
theorem n_list {α : Type} [Rp α] {xs : List α} (h : XE C ta (isa xs) C1) : XN C (tCB (rListQ K) (tCons ta tNil)) (fun p => lstC p xs) C1 := fun F B0 σ B H Q st q => h F B0 σ B H _ st fun v B1 H1 rv e1 st1 => by
  obtain ⟨p, vs, rfl, hp, hv⟩ := rv
  exact ⟨p, vs, rfl, .inl (SqL.of (st1.bh _ _ hp)), fun l hl => q l B1 _ e1 (st1.newO hl _ rfl fun H' h' => ⟨vs, h', hv⟩)⟩
/-- .. of an owned one -/
theorem n_listO {α : Type} [Rp α] {xs : List α} {p : Addr} (j : Nat) (h : XE C ta (isr p) C1) (hj : C1.o[j]? = some (lstC p xs) := by rfl) : XN C (tCB (rListQ K) (tCons ta tNil)) (fun p => lstC p xs) C1 := fun F B0 σ B H Q st q => h F B0 σ B H _ st fun v B1 H1 rv e1 st1 => by
  have rv' : v = .ref p := rv
  subst rv'
  obtain ⟨vs, hp, hv⟩ := (st1.own.at hj).2
  exact ⟨p, vs, rfl, .inl (SqL.of hp), fun l hl => q l B1 _ e1 (st1.newO hl _ rfl fun H' h' => ⟨vs, h', hv⟩)⟩
/-- list(range(a, b)) -/
def irange (a b : Int) : List Int := (List.range (b - a).toNat).map fun i => a + (i : Nat)
theorem irange_len (a b : Int) : (irange a b).length = (b - a).toNat := by simp [irange]
theorem irange_get {a b : Int} {i : Nat} (h : i < (b - a).toNat) : (irange a b)[i]? = some (a + (i : Int)) := by
  unfold irange
  rw [List.getElem?_map, List.getElem?_range h]; rfl
theorem mem_irange {a b x : Int} : x ∈ irange a b ↔ a ≤ x ∧ x < b := by
  unfold irange
  simp only [List.mem_map, List.mem_range]
  constructor
  · rintro ⟨i, h, rfl⟩; omega
  · intro h; exact ⟨(x - a).toNat, by omega, by omega⟩
end

/-! ### what is walked -/
def XI {α : Type} [Rp α] (C : Ct) (wi : TI) (xs : List α) (C' : Ct) : Prop := ∀ (F B0 : Hp) (σ : L2.St) (B H : Hp) (R : It → Hp → Prop), STB F B0 C B σ H →
  (∀ J G Y B' H', Same B B' → STB F B0 C' B' σ H' → Walk J xs.length G Y → (∀ H2, Same B' H2 → G H2) →
    (∀ i H2 B2 v H3, i < xs.length → Y i H2 v H3 → Same B' B2 → Same B2 H2 → ∃ x, xs[i]? = some x ∧ ((H3 = H2 ∧ Rp.is B2 v x) ∨ ∃ T o, H2 T = none ∧ H3 = upd H2 T o ∧ Rp.is (upd B2 T o) v x)) → R J H') → wi σ H R
section
variable {X : Cx} {C C1 C2 C3 : Ct} {te ta tb tc : TE} {R R' : Sl} {K : Fg} {k : Nat}
theorem i_list {α : Type} [Rp α] {xs : List α} (h : XE C te (isa xs) C1) : XI C (iList K te) xs C1 := fun F B0 σ B H R st q => h F B0 σ B H _ st fun v B1 H1 rv e1 st1 => by
  obtain ⟨p, vs, rfl, hp, hv⟩ := rv
  have w := walk_list (K := K) (a := p) (xs := vs)
  rw [hv.len] at w
  refine ⟨p, rfl, ⟨vs, SqL.of (st1.bh _ _ hp)⟩, q _ _ _ B1 H1 e1 st1 w (fun H2 e => SqL.of (e _ _ hp)) fun i H2 B2 v H3 hi y e2 e3 => ?_⟩
  obtain ⟨y1, y2⟩ := y
  obtain ⟨x, hx, r⟩ := hv.get' y2
  exact ⟨x, hx, .inl ⟨y1, Rp.mono e2 r⟩⟩
theorem i_str {t : Tx} (h : XE C te (isa t) C1) : XI C (iStr te) (t.map fun c => ([c] : Tx)) C1 := fun F B0 σ B H R st q => h F B0 σ B H _ st fun v B1 H1 rv e1 st1 => by
  have w := walk_str (z := S t)
  have e : (S t).cps.size = (t.map fun c => ([c] : Tx)).length := by simp [S]
  rw [e] at w
  refine ⟨S t, rv, q _ _ _ B1 H1 e1 st1 w (fun H2 e => trivial) fun i H2 B2 v H3 hi y e2 e3 => ?_⟩
  obtain ⟨y1, c, y2, y3⟩ := y
  have hc : t[i]? = some c := by simpa [S] using y2
  exact ⟨[c], by rw [List.getElem?_map, hc]; rfl, .inl ⟨y1, y3⟩⟩
theorem i_rng1 {n : Int} {ta : TA} (h : XA C ta [isa n] C1) (h1 : n < 2 ^ 62) (h0 : -(2 ^ 62) ≤ n) : XI C (iRng1 ta) (irange 0 n) C1 := fun F B0 σ B H R st q => h F B0 σ B H _ st fun vs B1 H1 rv e1 st1 => by
  obtain ⟨v, r, rfl, h2, h3⟩ := rv
  have h3' : r = [] := h3
  subst h3'
  have h2' : v = .int n := h2
  subst h2'
  have w := walk_range (lo := 0) (n := n.toNat)
  have e : n.toNat = (irange 0 n).length := by rw [irange_len]; omega
  have hl : ∀ i, i < (irange 0 n).length → (irange 0 n)[i]? = some (0 + (i : Int)) := fun i hi => irange_get (by rw [irange_len] at hi; exact hi)
  refine ⟨n, rfl, h0, h1, ?_⟩
  rw [e] at w ⊢
  exact q _ _ _ B1 H1 e1 st1 w (fun H2 e => trivial) fun i H2 B2 v H3 hi y e2 e3 => ⟨_, hl i hi, .inl ⟨y.1, y.2⟩⟩
theorem i_rng2 {a b : Int} {ta : TA} (h : XA C ta [isa a, isa b] C1) (h1 : a < 2 ^ 62 ∧ -(2 ^ 62) ≤ a ∧ b < 2 ^ 62 ∧ -(2 ^ 62) ≤ b) : XI C (iRng2 ta) (irange a b) C1 := fun F B0 σ B H R st q => h F B0 σ B H _ st fun vs B1 H1 rv e1 st1 => by
  obtain ⟨v, r, rfl, h2, w', r2, rfl, h3, h4⟩ := rv
  have h4' : r2 = [] := h4
  subst h4'
  have h2' : v = .int a := h2
  subst h2'
  have h3' : w' = .int b := h3
  subst h3'
  have w := walk_range (lo := a) (n := (b - a).toNat)
  have e : (b - a).toNat = (irange a b).length := by rw [irange_len]
  have hl : ∀ i, i < (irange a b).length → (irange a b)[i]? = some (a + (i : Int)) := fun i hi => irange_get (by rw [irange_len] at hi; exact hi)
  refine ⟨a, b, rfl, ⟨h1.2.1, h1.1, h1.2.2.2, h1.2.2.1⟩, ?_⟩
  rw [e] at w ⊢
  exact q _ _ _ B1 H1 e1 st1 w (fun H2 e => trivial) fun i H2 B2 v H3 hi y e2 e3 => ⟨_, hl i hi, .inl ⟨y.1, y.2⟩⟩
theorem i_rev {α : Type} [Rp α] {xs : List α} (h : XE C te (isa xs) C1) : XI C (iRev K (tCons te tNil)) xs.reverse C1 := fun F B0 σ B H R st q => h F B0 σ B H _ st fun v B1 H1 rv e1 st1 => by
  obtain ⟨p, vs, rfl, hp, hv⟩ := rv
  have w := walk_rev (K := K) (a := p) (xs := vs)
  have el : vs.length = xs.reverse.length := by rw [List.length_reverse, hv.len]
  refine ⟨p, vs, rfl, SqL.of (st1.bh _ _ hp), ?_⟩
  rw [el] at w ⊢
  refine q _ _ _ B1 H1 e1 st1 w (fun H2 e => SqL.of (e _ _ hp)) fun i H2 B2 v H3 hi y e2 e3 => ?_
  obtain ⟨y1, y2⟩ := y
  obtain ⟨x, hx, r⟩ := hv.get' y2
  refine ⟨x, ?_, .inl ⟨y1, Rp.mono e2 r⟩⟩
  rw [List.length_reverse] at hi
  rw [List.getElem?_reverse hi, ← hx]
  rw [List.length_reverse]
def enum {α : Type} (xs : List α) : List (Int × α) := xs.zipIdx.map fun p => ((p.2 : Int), p.1)
theorem enum_len {α : Type} (xs : List α) : (enum xs).length = xs.length := by simp [enum]
theorem enum_get {α : Type} {xs : List α} {i : Nat} {x : α} (h : xs[i]? = some x) : (enum xs)[i]? = some ((i : Int), x) := by
  unfold enum
  rw [List.getElem?_map, List.getElem?_zipIdx, h]
  simp
theorem i_enum {α : Type} [Rp α] {xs : List α} (h : XE C te (isa xs) C1) : XI C (iEnum K (tCons te tNil)) (enum xs) C1 := fun F B0 σ B H R st q => h F B0 σ B H _ st fun v B1 H1 rv e1 st1 => by
  obtain ⟨p, vs, rfl, hp, hv⟩ := rv
  have w := walk_enum (K := K) (a := p) (xs := vs)
  rw [hv.len, ← enum_len xs] at w
  refine ⟨p, vs, rfl, SqL.of (st1.bh _ _ hp), q _ _ _ B1 H1 e1 st1 w (fun H2 e => SqL.of (e _ _ hp)) fun i H2 B2 v H3 hi y e2 e3 => ?_⟩
  obtain ⟨T, a, b, rfl, hT, rfl, ea, eb⟩ := y
  cases ea
  obtain ⟨x, hx, r⟩ := hv.get' eb
  refine ⟨_, enum_get hx, .inr ⟨T, _, hT, rfl, T, _, _, rfl, upd_same, rfl, Rp.mono (e2.trans (same_new (e3.free hT))) r⟩⟩
theorem zip_get {α β : Type} {xs : List α} {ys : List β} {i : Nat} {x : α} {y : β} (h : xs[i]? = some x) (h' : ys[i]? = some y) : (xs.zip ys)[i]? = some (x, y) := by
  rw [List.getElem?_zip_eq_some]; exact ⟨h, h'⟩
theorem i_zip {α β : Type} [Rp α] [Rp β] {xs : List α} {ys : List β} (h : XE C ta (isa xs) C1) (h' : XE C1 tb (isa ys) C2) : XI C (iZip K (tCons ta (tCons tb tNil))) (xs.zip ys) C2 := fun F B0 σ B H R st q => h F B0 σ B H _ st fun v B1 H1 rv e1 st1 => h' F B0 σ B1 H1 _ st1 fun v' B2 H2 rv' e1' st2 => by
  obtain ⟨p, vs, rfl, hp, hv⟩ := rv
  obtain ⟨p', vs', rfl, hp', hv'⟩ := rv'
  have w := walk_zip (K := K) (a := p) (b := p') (xs := vs) (ys := vs') (n := (xs.zip ys).length) (by rw [List.length_zip, hv.len, hv'.len])
  have hp2 := e1' _ _ hp
  refine ⟨p, p', vs, vs', rfl, SqL.of (st2.bh _ _ hp2), SqL.of (st2.bh _ _ hp'), q _ _ _ B2 H2 (e1.trans e1') st2 w (fun H2 e => ⟨SqL.of (e _ _ hp2), SqL.of (e _ _ hp')⟩) fun i H3 B3 v H4 hi y e2 e3 => ?_⟩
  obtain ⟨T, a, b, rfl, hT, rfl, ea, eb⟩ := y
  obtain ⟨x, hx, r⟩ := hv.get' ea
  obtain ⟨x', hx', r'⟩ := hv'.get' eb
  have e4 := e2.trans (same_new (o := .tup [a, b]) (e3.free hT))
  exact ⟨_, zip_get hx hx', .inr ⟨T, _, hT, rfl, T, _, _, rfl, upd_same, Rp.mono (e1'.trans e4) r, Rp.mono e4 r'⟩⟩

/-! ### targets -/
def XG {α : Type} [Rp α] (g : TG) (up : α → List (Option Sl) → List (Option Sl)) (is : List Nat) : Prop := ∀ (F B0 : Hp) (C : Ct) (B : Hp) (σ : L2.St) (H : Hp) (v : V) (x : α) (Q : L2.St → Hp → Prop), STB F B0 C B σ H → Rp.is B v x →
  (∀ σ', (∀ vs, (∀ i ∈ is, i ∈ vs) → wipe σ' vs = wipe σ vs) → STB F B0 ⟨up x C.g, C.o⟩ B σ' H → Q σ' H) → g v σ H Q
theorem wipe_set {σ : L2.St} {i : Nat} {x : Option V} : ∀ {vs : List Nat}, i ∈ vs → wipe (σ.set i x) vs = wipe σ vs
  | [], h => by simp at h
  | v :: vs, h => by
    show (wipe (σ.set i x) vs).set v none = (wipe σ vs).set v none
    by_cases hi : i ∈ vs
    · rw [wipe_set hi]
    · have e : i = v := by simpa [hi] using h
      subst e
      have hc : ∀ (vs : List Nat) (σ : L2.St), i ∉ vs → wipe (σ.set i x) vs = (wipe σ vs).set i x := by
        intro vs
        induction vs with
        | nil => intro σ _; rfl
        | cons w ws ih =>
          intro σ hn
          show (wipe (σ.set i x) ws).set w none = ((wipe σ ws).set w none).set i x
          rw [ih σ (fun z => hn (by simp [z]))]
          exact List.set_comm _ _ (fun z => hn (by simp [z]))
      rw [hc vs σ hi, List.set_set]
theorem g_name {α : Type} [Rp α] {i : Nat} : XG (α := α) (gName i) (fun x g => g.set i (some (isa x))) [i] := fun F B0 C B σ H v x Q st r q =>
  q _ (fun vs h => wipe_set (h i (by simp))) (st.set i r)
theorem g_tup2 {α β : Type} [Rp α] [Rp β] {i j : Nat} : XG (α := α × β) (gTup K 2 (gCons (gName i) (gCons (gName j) gNil))) (fun x g => (g.set i (some (isa x.1))).set j (some (isa x.2))) [i, j] := fun F B0 C B σ H v x Q st r q => by
  obtain ⟨p, a, b, rfl, hp, h1, h2⟩ := r
  refine ⟨p, _, rfl, SqT.of (st.bh _ _ hp), rfl, a, _, rfl, b, _, rfl, rfl, q _ (fun vs h => ?_) ((st.set i (r := isa x.1) h1).set j (r := isa x.2) h2)⟩
  rw [wipe_set (h j (by simp)), wipe_set (h i (by simp))]
theorem g_tup3 {α β γ : Type} [Rp α] [Rp β] [Rp γ] {i j l : Nat} : XG (α := PySem.W.T3 α β γ) (gTup K 3 (gCons (gName i) (gCons (gName j) (gCons (gName l) gNil)))) (fun x g => ((g.set i (some (isa x.a))).set j (some (isa x.b))).set l (some (isa x.c))) [i, j, l] := fun F B0 C B σ H v x Q st r q => by
  obtain ⟨p, a, b, c, rfl, hp, h1, h2, h3⟩ := r
  refine ⟨p, _, rfl, SqT.of (st.bh _ _ hp), rfl, a, _, rfl, b, _, rfl, c, _, rfl, rfl, q _ (fun vs h => ?_) (((st.set i (r := isa x.a) h1).set j (r := isa x.b) h2).set l (r := isa x.c) h3)⟩
  rw [wipe_set (h l (by simp)), wipe_set (h j (by simp)), wipe_set (h i (by simp))]
end
def wipeG (g : List (Option Sl)) : List Nat → List (Option Sl)
  | [] => g
  | v :: vs => (wipeG g vs).set v none
theorem STB.wipe {F B0 : Hp} {C : Ct} {B : Hp} {σ : L2.St} {H : Hp} (s : STB F B0 C B σ H) : ∀ vs : List Nat, STB F B0 ⟨wipeG C.g vs, C.o⟩ B (L2.wipe σ vs) H
  | [] => s
  | v :: vs => (s.wipe vs).forget v none

/-! ### comprehensions -/
/-- what stands elsewhere may be protected by the frame -/
theorem STB.guard {F B0 : Hp} {C : Ct} {B : Hp} {σ : L2.St} {H : Hp} (s : STB F B0 C B σ H) {D : Addr} {o : HO} (hD : H D = some o) (hB : B D = none) (hc : ∀ c ∈ C.o, D ∉ c.as) : STB (L2.upd F D o) B0 C B σ H := by
  refine ⟨fun a x h => ?_, s.bh, s.b0, fun a h => ?_, s.env, s.own.imp (Same.refl B) fun c hc' a ha => ?_⟩
  · by_cases e : a = D
    · subst e; rw [upd_same] at h; rw [hD]; exact h
    · rw [upd_ne e] at h; exact s.fr a x h
  · have e : a ≠ D := fun z => h (z ▸ hB)
    rw [upd_ne e]; exact s.nw a h
  · have e : a ≠ D := fun z => hc c hc' (z ▸ ha)
    rw [upd_ne e]; exact ⟨rfl, (s.own.mem hc').1 a ha⟩
/-- state-threading map -/
def lcS {α β S : Type} : List α → S → (S → α → β × S) → List β × S
  | [], s, _ => ([], s)
  | x :: xs, s, f => let r := f s x; let q := lcS xs r.2 f; (r.1 :: q.1, q.2)
theorem lcS_snoc {α β S : Type} (f : S → α → β × S) : ∀ (xs : List α) (s : S) (x : α), lcS (xs ++ [x]) s f = ((lcS xs s f).1 ++ [(f (lcS xs s f).2 x).1], (f (lcS xs s f).2 x).2)
  | [], s, x => rfl
  | y :: ys, s, x => by
    show ((f s y).1 :: (lcS (ys ++ [x]) (f s y).2 f).1, (lcS (ys ++ [x]) (f s y).2 f).2) = _
    rw [lcS_snoc f ys]; rfl
theorem take_succ' {α : Type} {xs : List α} {i : Nat} {x : α} (h : xs[i]? = some x) : xs.take (i + 1) = xs.take i ++ [x] := by
  rw [List.take_add_one, h]; rfl
section
variable {C C1 C2 C3 : Ct} {te : TE} {tt : TT} {wi : TI} {g : TG} {vs is : List Nat} {α β : Type} [Rp α] [Rp β] {xs : List α} {up : α → List (Option Sl) → List (Option Sl)}
/-- [e for x in xs], e changing owned things: CI tells the context by the state -/
theorem n_lcS {S : Type} (CI : S → List Cell) (g1 : List (Option Sl)) (s0 : S) (f : S → α → β × S) (hi : XI C wi xs ⟨g1, CI s0⟩) (hg : XG g up is) (hv : ∀ i ∈ is, i ∈ vs)
    (I : Nat → S → Prop) (i0 : I 0 s0) (hI : ∀ (n : Nat) x s, xs[n]? = some x → I n s → I (n + 1) (f s x).2)
    (has : ∀ s, ((CI s).map (·.as)) = (CI s0).map (·.as))
    (he : ∀ (n : Nat) x s, xs[n]? = some x → I n s → XE ⟨up x (wipeG g1 vs), CI s⟩ te (isa (f s x).1) ⟨up x (wipeG g1 vs), CI (f s x).2⟩) (hz : xs.length ≤ 16777216) :
    XN C (tLc wi g tYes te vs) (fun p => lstC p (lcS xs s0 f).1) ⟨g1, CI (lcS xs s0 f).2⟩ := by
  intro F B0 σ B H Q st q
  refine hi F B0 σ B H _ st fun J G Y B1 H1 e1 st1 w hG hY => fun D hD => ?_
  have hBD : B1 D = none := st1.bh.free hD
  have hB0 : B0 D = none := st1.b0.free hBD
  have asOf : ∀ s a, (∃ c ∈ CI s, a ∈ c.as) ↔ ∃ c ∈ CI s0, a ∈ c.as := fun s a => by
    have h := has s
    constructor
    · rintro ⟨c, hc, ha⟩
      have : c.as ∈ (CI s).map (·.as) := List.mem_map_of_mem hc
      rw [h] at this
      obtain ⟨d, hd, e⟩ := List.mem_map.mp this
      exact ⟨d, hd, e ▸ ha⟩
    · rintro ⟨c, hc, ha⟩
      have : c.as ∈ (CI s0).map (·.as) := List.mem_map_of_mem hc
      rw [← h] at this
      obtain ⟨d, hd, e⟩ := List.mem_map.mp this
      exact ⟨d, hd, e ▸ ha⟩
  have noD : ∀ s, ∀ c ∈ CI s, D ∉ c.as := fun s c hc ha => by
    obtain ⟨d, hd, hda⟩ := (asOf s D).mp ⟨c, hc, ha⟩
    exact st1.own.there hd hda hD
  refine lc_it w (fun i H' => ∃ B' acc, Same B1 B' ∧ STB F B0 ⟨g1, CI (lcS (xs.take i) s0 f).2⟩ B' σ H' ∧ B' D = none ∧ H' D = some (.lst acc) ∧ All2 (Rp.is B') acc (lcS (xs.take i) s0 f).1 ∧ I i (lcS (xs.take i) s0 f).2 ∧ i ≤ xs.length) ?_ ?_ ?_ ?_
  · refine ⟨B1, [], Same.refl _, ?_, hBD, upd_same, trivial, i0, Nat.zero_le _⟩
    exact ⟨st1.fr.trans (same_new hD), st1.bh.trans (same_new hD), st1.b0, st1.nw, st1.env, st1.own.imp (Same.refl _) fun c hc a ha => ⟨upd_ne fun z => st1.own.there hc ha (z ▸ hD), (st1.own.mem hc).1 a ha⟩⟩
  · rintro i H' _ ⟨B', acc, e2, st2, _⟩
    exact hG H' (e2.trans st2.bh)
  · rintro i v H2 H3 hil ⟨B2, acc, e2, st2, hB2, hacc, hall, hIi, _⟩ hy
    obtain ⟨x, hx, hcase⟩ := hY i H2 B2 v H3 hil hy e2 st2.bh
    have hnext : lcS (xs.take (i + 1)) s0 f = ((lcS (xs.take i) s0 f).1 ++ [(f (lcS (xs.take i) s0 f).2 x).1], (f (lcS (xs.take i) s0 f).2 x).2) := by
      rw [take_succ' hx, lcS_snoc]
    -- behind the item's making
    obtain ⟨B3, e3, st3, hB3, hH3, rx⟩ : ∃ B3, Same B2 B3 ∧ STB F B0 ⟨g1, CI (lcS (xs.take i) s0 f).2⟩ B3 σ H3 ∧ B3 D = none ∧ H3 D = some (.lst acc) ∧ Rp.is B3 v x := by
      rcases hcase with ⟨rfl, r⟩ | ⟨T, o, hT, rfl, r⟩
      · exact ⟨B2, Same.refl _, st2, hB2, hacc, r⟩
      · have hTD : D ≠ T := fun z => by rw [z, hT] at hacc; cases hacc
        exact ⟨upd B2 T o, same_new (st2.bh.free hT), st2.new hT o, by rw [upd_ne hTD]; exact hB2, by rw [upd_ne hTD]; exact hacc, r⟩
    have st4 := (st3.wipe vs).guard hH3 hB3 (fun c hc => noD (lcS (xs.take i) s0 f).2 c hc)
    refine hg (upd F D (.lst acc)) B0 _ B3 _ H3 v x _ st4 rx fun σ' hw st5 => ⟨?_, ?_⟩
    · have h1 := hw vs hv
      rw [h1]
      have : ∀ (vs : List Nat) (σ : L2.St), L2.wipe (L2.wipe σ vs) vs = L2.wipe σ vs := by
        have key : ∀ (ws vs : List Nat) (σ : L2.St), (∀ i ∈ vs, i ∈ ws) → L2.wipe (L2.wipe σ vs) ws = L2.wipe σ ws := by
          intro ws vs
          induction vs with
          | nil => intro σ _; rfl
          | cons v vs ih =>
            intro σ h
            show L2.wipe ((L2.wipe σ vs).set v none) ws = _
            rw [wipe_set (h v (by simp))]
            exact ih σ fun i hi => h i (by simp [hi])
        exact fun vs σ => key vs vs σ fun _ h => h
      exact this vs σ
    · unfold tYes
      dsimp only
      rw [if_pos rfl]
      refine he i x _ hx hIi (upd F D (.lst acc)) B0 σ' B3 H3 _ st5 fun y B4 H4 ry e4 st6 => ?_
      have hH4 : H4 D = some (.lst acc) := st6.fr D _ upd_same
      have hB4 : B4 D = none := by
        cases hq : B4 D with
        | none => rfl
        | some o =>
          rcases st6.nw D (by rw [hq]; simp) with z | z
          · exact absurd hB0 z
          · rw [upd_same] at z; cases z
      refine ⟨acc, hH4, ?_, B4, acc ++ [y], (e2.trans e3).trans e4, ?_, hB4, upd_same, ?_, ?_, by omega⟩
      · rw [hall.len, sizeLine_eq]
        have : ((lcS (xs.take i) s0 f).1).length ≤ i := by
          have : ∀ (l : List α) (s : S), (lcS l s f).1.length = l.length := by
            intro l
            induction l with
            | nil => intro s; rfl
            | cons a l ih => intro s; show (lcS l (f s a).2 f).1.length + 1 = l.length + 1; rw [ih]
          rw [this, List.length_take]; omega
        omega
      · rw [hnext]
        refine ⟨fun a o h => ?_, fun a o h => ?_, st6.b0, fun a h => ?_, ?_, ?_⟩
        · have hne : a ≠ D := fun z => by
            have := st1.fr a o h
            rw [z, hD] at this; cases this
          rw [upd_ne hne]
          exact st6.fr a o (by rw [upd_ne hne]; exact h)
        · have hne : a ≠ D := fun z => by rw [z, hB4] at h; cases h
          rw [upd_ne hne]; exact st6.bh a o h
        · rcases st6.nw a h with z | z
          · exact .inl z
          · have hne : a ≠ D := fun z' => by rw [z', upd_same] at z; cases z
            rw [upd_ne hne] at z; exact .inr z
        · exact st3.env.mono e4
        · refine st6.own.imp (Same.refl _) fun c hc a ha => ?_
          have hne : a ≠ D := fun z => noD _ c hc (z ▸ ha)
          have h1 := (st6.own.mem hc).1 a ha
          rw [upd_ne hne] at h1
          exact ⟨upd_ne hne, h1⟩
      · rw [hnext]
        exact (hall.imp fun _ _ z => Rp.mono (e3.trans e4) z).app ⟨ry, trivial⟩
      · rw [hnext]; exact hI i x _ hx hIi
  · rintro H' ⟨B', acc, e2, st2, hB', hacc, hall, _, _⟩
    rw [List.take_length] at st2 hall
    refine q D B' H' (e1.trans e2) ⟨st2.fr, st2.bh, st2.b0, st2.nw, st2.env, ⟨fun a ha => ?_, ⟨acc, hacc, hall⟩, fun d hd a ha => ?_, st2.own⟩⟩
    · have e : a = D := by simpa [lstC] using ha
      subst e
      exact ⟨st1.fr.free hD, hB'⟩
    · have e : a = D := by simpa [lstC] using ha
      subst e
      exact noD _ d hd
/-- [e for x in xs if t] -/
theorem n_lc (p : α → Bool) (f : α → β) (hi : XI C wi xs C1) (hg : XG g up is) (hv : ∀ i ∈ is, i ∈ vs)
    (ht : ∀ (n : Nat) x, xs[n]? = some x → XT ⟨up x (wipeG C1.g vs), C1.o⟩ tt (p x) ⟨up x (wipeG C1.g vs), C1.o⟩)
    (he : ∀ (n : Nat) x, xs[n]? = some x → p x = true → XE ⟨up x (wipeG C1.g vs), C1.o⟩ te (isa (f x)) ⟨up x (wipeG C1.g vs), C1.o⟩) (hz : xs.length ≤ 16777216) :
    XN C (tLc wi g tt te vs) (fun q => lstC q ((xs.filter p).map f)) C1 := by
  intro F B0 σ B H Q st q
  refine hi F B0 σ B H _ st fun J G Y B1 H1 e1 st1 w hG hY => fun D hD => ?_
  have hBD : B1 D = none := st1.bh.free hD
  have hB0 : B0 D = none := st1.b0.free hBD
  have noD : ∀ c ∈ C1.o, D ∉ c.as := fun c hc ha => st1.own.there hc ha hD
  refine lc_it w (fun i H' => ∃ B' acc, Same B1 B' ∧ STB F B0 C1 B' σ H' ∧ B' D = none ∧ H' D = some (.lst acc) ∧ All2 (Rp.is B') acc (((xs.take i).filter p).map f) ∧ i ≤ xs.length) ?_ ?_ ?_ ?_
  · refine ⟨B1, [], Same.refl _, ?_, hBD, upd_same, trivial, Nat.zero_le _⟩
    exact ⟨st1.fr.trans (same_new hD), st1.bh.trans (same_new hD), st1.b0, st1.nw, st1.env, st1.own.imp (Same.refl _) fun c hc a ha => ⟨upd_ne fun z => st1.own.there hc ha (z ▸ hD), (st1.own.mem hc).1 a ha⟩⟩
  · rintro i H' _ ⟨B', acc, e2, st2, _⟩
    exact hG H' (e2.trans st2.bh)
  · rintro i v H2 H3 hil ⟨B2, acc, e2, st2, hB2, hacc, hall, _⟩ hy
    obtain ⟨x, hx, hcase⟩ := hY i H2 B2 v H3 hil hy e2 st2.bh
    obtain ⟨B3, e3, st3, hB3, hH3, rx⟩ : ∃ B3, Same B2 B3 ∧ STB F B0 C1 B3 σ H3 ∧ B3 D = none ∧ H3 D = some (.lst acc) ∧ Rp.is B3 v x := by
      rcases hcase with ⟨rfl, r⟩ | ⟨T, o, hT, rfl, r⟩
      · exact ⟨B2, Same.refl _, st2, hB2, hacc, r⟩
      · have hTD : D ≠ T := fun z => by rw [z, hT] at hacc; cases hacc
        exact ⟨upd B2 T o, same_new (st2.bh.free hT), st2.new hT o, by rw [upd_ne hTD]; exact hB2, by rw [upd_ne hTD]; exact hacc, r⟩
    have st4 := (st3.wipe vs).guard hH3 hB3 noD
    have unguard : ∀ {B4 H4 σ'}, STB (upd F D (.lst acc)) B0 ⟨up x (wipeG C1.g vs), C1.o⟩ B4 σ' H4 → Same B3 B4 → H4 D = some (.lst acc) ∧ B4 D = none ∧ STB F B0 C1 B4 σ H4 := fun {B4 H4 σ'} st6 e4 => by
      have hH4 : H4 D = some (.lst acc) := st6.fr D _ upd_same
      have hB4 : B4 D = none := by
        cases hq : B4 D with
        | none => rfl
        | some o =>
          rcases st6.nw D (by rw [hq]; simp) with z | z
          · exact absurd hB0 z
          · rw [upd_same] at z; cases z
      refine ⟨hH4, hB4, fun a o h => ?_, st6.bh, st6.b0, fun a h => ?_, st3.env.mono e4, st6.own.imp (Same.refl _) fun c hc a ha => ?_⟩
      · have hne : a ≠ D := fun z => by
          have := st1.fr a o h
          rw [z, hD] at this; cases this
        exact st6.fr a o (by rw [upd_ne hne]; exact h)
      · rcases st6.nw a h with z | z
        · exact .inl z
        · have hne : a ≠ D := fun z' => by rw [z', upd_same] at z; cases z
          rw [upd_ne hne] at z; exact .inr z
      · have hne : a ≠ D := fun z => noD c hc (z ▸ ha)
        have h1 := (st6.own.mem hc).1 a ha
        rw [upd_ne hne] at h1
        exact ⟨rfl, h1⟩
    refine hg (upd F D (.lst acc)) B0 _ B3 _ H3 v x _ st4 rx fun σ' hw st5 => ⟨?_, ?_⟩
    · have h1 := hw vs hv
      rw [h1]
      have key : ∀ (ws vs : List Nat) (σ : L2.St), (∀ i ∈ vs, i ∈ ws) → L2.wipe (L2.wipe σ vs) ws = L2.wipe σ ws := by
        intro ws vs
        induction vs with
        | nil => intro σ _; rfl
        | cons v vs ih =>
          intro σ h
          show L2.wipe ((L2.wipe σ vs).set v none) ws = _
          rw [wipe_set (h v (by simp))]
          exact ih σ fun i hi => h i (by simp [hi])
      exact key vs vs σ fun _ h => h
    · refine ht i x hx (upd F D (.lst acc)) B0 σ' B3 H3 _ st5 fun B4 H4 e4 st6 => ?_
      cases hp : p x with
      | false =>
        refine iteF ?_
        obtain ⟨h1, h2, h3⟩ := unguard st6 e4
        refine ⟨B4, acc, (e2.trans e3).trans e4, h3, h2, h1, ?_, by omega⟩
        rw [take_succ' hx, List.filter_append, List.map_append]
        simp only [List.filter_cons, hp, List.filter_nil]
        simp only [Bool.false_eq_true, if_false, List.map_nil, List.append_nil]
        exact hall.imp fun _ _ z => Rp.mono (e3.trans e4) z
      | true =>
        refine iteT ?_
        refine he i x hx hp (upd F D (.lst acc)) B0 σ' B4 H4 _ st6 fun y B5 H5 ry e5 st7 => ?_
        obtain ⟨h1, h2, h3⟩ := unguard st7 (e4.trans e5)
        refine ⟨acc, h1, ?_, B5, acc ++ [y], ((e2.trans e3).trans e4).trans e5, ?_, h2, upd_same, ?_, by omega⟩
        · rw [hall.len, sizeLine_eq, List.length_map]
          have := List.length_filter_le p (xs.take i)
          rw [List.length_take] at this
          omega
        · refine ⟨fun a o h => ?_, fun a o h => ?_, h3.b0, h3.nw, h3.env, h3.own.imp (Same.refl _) fun c hc a ha => ?_⟩
          · have hne : a ≠ D := fun z => by
              have := st1.fr a o h
              rw [z, hD] at this; cases this
            rw [upd_ne hne]; exact h3.fr a o h
          · have hne : a ≠ D := fun z => by rw [z, h2] at h; cases h
            rw [upd_ne hne]; exact h3.bh a o h
          · have hne : a ≠ D := fun z => noD c hc (z ▸ ha)
            exact ⟨upd_ne hne, (h3.own.mem hc).1 a ha⟩
        · rw [take_succ' hx, List.filter_append, List.map_append]
          simp only [List.filter_cons, hp, List.filter_nil]
          simp only [if_true, List.map_cons, List.map_nil]
          exact (hall.imp fun _ _ z => Rp.mono ((e3.trans e4).trans e5) z).app ⟨ry, trivial⟩
  · rintro H' ⟨B', acc, e2, st2, hB', hacc, hall, _⟩
    rw [List.take_length] at hall
    refine q D B' H' (e1.trans e2) ⟨st2.fr, st2.bh, st2.b0, st2.nw, st2.env, ⟨fun a ha => ?_, ⟨acc, hacc, hall⟩, fun d hd a ha => ?_, st2.own⟩⟩
    · have e : a = D := by simpa [lstC] using ha
      subst e
      exact ⟨st1.fr.free hD, hB'⟩
    · have e : a = D := by simpa [lstC] using ha
      subst e
      exact noD d hd
theorem t_yes : XT C tYes true C := fun F B0 σ B H Q st q => q B H (Same.refl _) st
end
end Fw

namespace Fw
open PySem PySem.Spec L2
open PySem.W (Datum DatumOrd Holds HoldAll SomeDatum)

/-! ### outcomes -/
inductive Ctl (S R X : Type) where
  | nx (s : S)
  | rt (r : R)
  | rs (x : X)
inductive Res (R : Type) where
  | ok (r : R)
  | er (x : Str)
namespace Ctl
variable {S S' R X : Type}
def bind : Ctl S R X → (S → Ctl S' R X) → Ctl S' R X
  | nx s, f => f s
  | rt r, _ => rt r
  | rs x, _ => rs x
def lift : Ctl Empty R X → Ctl S R X
  | nx s => s.elim
  | rt r => rt r
  | rs x => rs x
/-- of one that raises nothing -/
def out (d : S → R) : Ctl S R Empty → R
  | nx s => d s
  | rt r => r
  | rs x => x.elim
def outR (d : S → R) : Ctl S R Str → Res R
  | nx s => .ok (d s)
  | rt r => .ok r
  | rs x => .er x
end Ctl
def forC {α S R X : Type} : List α → S → (S → α → Ctl S R X) → Ctl S R X
  | [], s, _ => .nx s
  | x :: xs, s, f => (f s x).bind fun s' => forC xs s' f
theorem forC_drop {α S R X : Type} {xs : List α} {n : Nat} {x : α} (h : xs[n]? = some x) (s : S) (f : S → α → Ctl S R X) : forC (xs.drop n) s f = (f s x).bind fun s' => forC (xs.drop (n + 1)) s' f := by
  have hl := (List.getElem?_eq_some_iff.mp h).1
  have e : xs.drop n = x :: xs.drop (n + 1) := by
    rw [List.drop_eq_getElem_cons hl]
    have := (List.getElem?_eq_some_iff.mp h).2
    rw [this]
  rw [e]; rfl
/-- an invariant of a loop that comes to its end -/
theorem forC_inv {α S R X : Type} {f : S → α → Ctl S R X} (I : Nat → S → Prop) : ∀ {xs : List α} {s0 s : S} {k : Nat}, I k s0 → (∀ (n : Nat) x s s', xs[n]? = some x → I (k + n) s → f s x = .nx s' → I (k + n + 1) s') → forC xs s0 f = .nx s → I (k + xs.length) s
  | [], s0, s, k, h0, _, h => by
    have : s0 = s := by injection h
    rw [← this]; exact h0
  | x :: xs, s0, s, k, h0, hs, h => by
    have h : (f s0 x).bind (fun s' => forC xs s' f) = .nx s := h
    cases e : f s0 x with
    | nx s1 =>
      rw [e] at h
      have h1 := hs 0 x s0 s1 rfl h0 e
      have := forC_inv I (xs := xs) (s0 := s1) (s := s) (k := k + 1) h1 (fun n y t t' hy hi he => by
        have := hs (n + 1) y t t' (by simpa using hy) (by rw [show k + (n + 1) = k + 1 + n by omega]; exact hi) he
        rw [show k + 1 + n + 1 = k + (n + 1) + 1 by omega]; exact this) h
      rw [show k + (x :: xs).length = k + 1 + xs.length by simp; omega]; exact this
    | rt r => rw [e] at h; cases h
    | rs r => rw [e] at h; cases h
def whileC {S R X : Type} (c : S → Bool) (f : S → Ctl S R X) : Nat → S → Ctl S R X
  | 0, s => .nx s
  | n + 1, s => if c s = true then (f s).bind (whileC c f n) else .nx s

/-! ### blocks -/
structure Tm (R X : Type) where
  vr : R → Hp → Sl
  oc : R → List Cell
  ec : X → List Cell
  wx : X → L2.St → Hp → Prop
  vm : ∀ {r : R} {B0 B1 B : Hp} {v : V}, Same B0 B1 → (vr r B1).P B v → (vr r B0).P B v
def XB {S R X : Type} (T : Tm R X) (C : Ct) (ts : TS) (o : Ctl S R X) (CS : S → Ct) : Prop := ∀ (F B0 : Hp) (D : Ends) (σ : L2.St) (B H : Hp), STB F B0 C B σ H →
  (∀ s, o = .nx s → ∀ σ' B' H', STB F B0 (CS s) B' σ' H' → D.nx σ' H') →
  (∀ r, o = .rt r → ∀ v B' H', STB F B0 ⟨[], T.oc r⟩ B' [] H' → (T.vr r B0).P B' v → D.rt v H') →
  (∀ x, o = .rs x → ∀ σ' B' H', STB F B0 ⟨[], T.ec x⟩ B' [] H' → T.wx x σ' H') → ts D σ H
section
variable {S S' S2 R X : Type} {T : Tm R X} {C C1 C2 : Ct} {t u w : TS} {te : TE} {tt : TT} {o o1 o2 : Ctl S R X} {CS : S → Ct} {CS' : S' → Ct} {k : S → Ctl S' R X} {b : Bool} {Rv : Sl}
theorem STB.end_ {F B0 B H : Hp} {σ : L2.St} {os : List Cell} (st : STB F B0 C B σ H) (h : List.Sublist os C.o) : STB F B0 ⟨[], os⟩ B [] H := ⟨st.fr, st.bh, st.b0, st.nw, rfl, st.own.sub h⟩
theorem b_nil {s : S} (h : Le C (CS s)) : XB T C tNext (.nx s) CS := fun F B0 D σ B H st hn hr hx => hn s rfl σ B H (st.le h)
theorem b_seq (h1 : XB T C t o CS) (h2 : ∀ s, o = .nx s → XB T (CS s) u (k s) CS') : XB T C (tSeq t u) (o.bind k) CS' := fun F B0 D σ B H st hn hr hx => by
  refine h1 F B0 { D with nx := u D } σ B H st (fun s e σ' B' H' st' => ?_) (fun r e v B' H' st' q => ?_) (fun x e σ' B' H' st' => ?_)
  · exact h2 s e F B0 D σ' B' H' st' (fun s' e' => hn s' (by rw [e]; exact e')) (fun r e' => hr r (by rw [e]; exact e')) fun x e' => hx x (by rw [e]; exact e')
  · exact hr r (by rw [e]; rfl) v B' H' st' q
  · exact hx x (by rw [e]; rfl) σ' B' H' st'
theorem b_asg {i : Nat} (h : XE C te Rv C1) (k : XB T ⟨C1.g.set i (some Rv), C1.o⟩ u o CS) : XB T C (tSeq (tAsg te (gName i)) u) o CS := fun F B0 D σ B H st hn hr hx =>
  h F B0 σ B H _ st fun v B1 H1 rv e1 st1 => k F B0 D _ B1 H1 (st1.set i rv) hn hr hx
theorem b_asgN {i : Nat} {c : Addr → Cell} (h : XN C te c C1) (k : ∀ p, XB T ⟨C1.g.set i (some (isr p)), c p :: C1.o⟩ u o CS) : XB T C (tSeq (tAsg te (gName i)) u) o CS := fun F B0 D σ B H st hn hr hx =>
  h F B0 σ B H _ st fun p B1 H1 e1 st1 => k p F B0 D _ B1 H1 (st1.set i (r := isr p) rfl) hn hr hx
theorem b_asgT {α : Type} [Rp α] {x : α} {g : TG} {up : α → List (Option Sl) → List (Option Sl)} {is : List Nat} (h : XE C te (isa x) C1) (hg : XG g up is) (k : XB T ⟨up x C1.g, C1.o⟩ u o CS) : XB T C (tSeq (tAsg te g) u) o CS := fun F B0 D σ B H st hn hr hx =>
  h F B0 σ B H _ st fun v B1 H1 rv e1 st1 => hg F B0 C1 B1 σ H1 v x _ st1 rv fun σ' _ st2 => k F B0 D _ B1 H1 st2 hn hr hx
theorem b_drop (h : XE C te Rv C1) (k : XB T C1 u o CS) : XB T C (tSeq (tDrop te) u) o CS := fun F B0 D σ B H st hn hr hx =>
  h F B0 σ B H _ st fun v B1 H1 rv e1 st1 => k F B0 D _ B1 H1 st1 hn hr hx
/-- a, b = e, f -/
theorem b_par {i j : Nat} {R1 R2 : Sl} {ta : TA} (h : XA C ta [R1, R2] C1) (k : XB T ⟨(C1.g.set i (some R1)).set j (some R2), C1.o⟩ u o CS) : XB T C (tSeq (tPar i j ta) u) o CS := fun F B0 D σ B H st hn hr hx =>
  h F B0 σ B H _ st fun vs B1 H1 rv e1 st1 => by
    obtain ⟨v, r, rfl, h1, v2, r2, rfl, h2, h3⟩ := rv
    have h3' : r2 = [] := h3
    subst h3'
    exact ⟨v, v2, rfl, k F B0 D _ B1 H1 ((st1.set i h1).set j h2) hn hr hx⟩
theorem b_ret {r : R} (h : XE C te Rv C1) (hV : ∀ (B0 B : Hp) v, Rv.P B v → (T.vr r B0).P B v) (hO : List.Sublist (T.oc r) C1.o) : XB T C (tRet te) (.rt r) CS := fun F B0 D σ B H st hn hr hx =>
  h F B0 σ B H _ st fun v B1 H1 rv e1 st1 => hr r rfl v B1 H1 (st1.end_ hO) (hV B0 B1 v rv)
theorem b_if (h : XT C tt b C1) (h1 : b = true → XB T C1 t o1 CS) (h2 : b = false → XB T C1 u o2 CS) : XB T C (tIfS tt t u) (if b = true then o1 else o2) CS := fun F B0 D σ B H st hn hr hx =>
  h F B0 σ B H _ st fun B1 H1 e1 st1 => by
    cases b with
    | true => exact h1 rfl F B0 D σ B1 H1 st1 hn hr hx
    | false => exact h2 rfl F B0 D σ B1 H1 st1 (fun s e => hn s (by rw [e]; rfl)) (fun s e => hr s (by rw [e]; rfl)) (fun s e => hx s (by rw [e]; rfl))
/-- if c: (something that does not fall through); rest -/
theorem b_guard {o1 : Ctl Empty R X} {CE : Empty → Ct} (h : XT C tt b C1) (h1 : b = true → XB T C1 t o1 CE) (h2 : b = false → XB T C1 u o2 CS) : XB T C (tSeq (tIfS tt t tNext) u) (if b = true then o1.lift else o2) CS := fun F B0 D σ B H st hn hr hx =>
  h F B0 σ B H _ st fun B1 H1 e1 st1 => by
    cases b with
    | true => exact h1 rfl F B0 { D with nx := u D } σ B1 H1 st1 (fun s => s.elim) (fun r e => hr r (by rw [e]; rfl)) (fun x e => hx x (by rw [e]; rfl))
    | false => exact h2 rfl F B0 D σ B1 H1 st1 (fun s e => hn s (by rw [e]; rfl)) (fun s e => hr s (by rw [e]; rfl)) (fun s e => hx s (by rw [e]; rfl))
/-- .. with else -/
theorem b_guardE {o1 : Ctl Empty R X} {CE : Empty → Ct} (h : XT C tt b C1) (h1 : b = true → XB T C1 t o1 CE) (h2 : b = false → XB T C1 (tSeq w u) o2 CS) : XB T C (tSeq (tIfS tt t w) u) (if b = true then o1.lift else o2) CS := fun F B0 D σ B H st hn hr hx =>
  h F B0 σ B H _ st fun B1 H1 e1 st1 => by
    cases b with
    | true => exact h1 rfl F B0 { D with nx := u D } σ B1 H1 st1 (fun s => s.elim) (fun r e => hr r (by rw [e]; rfl)) (fun x e => hx x (by rw [e]; rfl))
    | false => exact h2 rfl F B0 D σ B1 H1 st1 (fun s e => hn s (by rw [e]; rfl)) (fun s e => hr s (by rw [e]; rfl)) (fun s e => hx s (by rw [e]; rfl))
theorem b_le (l : Le C C1) (h : XB T C1 t o CS) : XB T C t o CS := fun F B0 D σ B H st hn hr hx => h F B0 D σ B H (st.le l) hn hr hx
/-- an owned list becomes one that stands -/
theorem b_frz {α : Type} [Rp α] {xs : List α} {p : Addr} (i j : Nat) (h : XB T ⟨C.g.set i (some (isa xs)), C.o.eraseIdx j⟩ t o CS) (hi : C.g[i]? = some (some (isr p)) := by rfl) (hj : C.o[j]? = some (lstC p xs) := by rfl) : XB T C t o CS := fun F B0 D σ B H st hn hr hx => by
  obtain ⟨v, h1, B', s', rfl, st'⟩ : ∃ v, σ[i]? = some (some v) ∧ ∃ B' σ', σ' = σ ∧ STB F B0 ⟨C.g.set i (some (isa xs)), C.o.eraseIdx j⟩ B' σ' H := by
    obtain ⟨v, h1, h2⟩ := st.env.get hi
    refine ⟨v, h1, ?_⟩
    obtain ⟨vs, hp, hv⟩ := (st.own.at hj).2
    have h2' : v = .ref p := h2
    subst h2'
    obtain ⟨st2, e2⟩ := st.frz hj rfl hp
    have r : Rp.is (upd B p (.lst vs)) (V.ref p) xs := ⟨p, vs, rfl, upd_same, hv.imp fun _ _ z => Rp.mono e2 z⟩
    have st3 := st2.set i (r := isa xs) r
    have e : σ.set i (some (V.ref p)) = σ := by
      apply List.ext_getElem?
      intro n
      by_cases hn : i = n
      · subst hn
        have hl := (List.getElem?_eq_some_iff.mp h1).1
        rw [List.getElem?_set_self hl, h1]
      · rw [List.getElem?_set_ne hn]
    exact ⟨_, _, e, st3⟩
  exact h F B0 D _ B' H st' hn hr hx
/-- for target in walked: body -/
theorem b_for {α : Type} [Rp α] {xs : List α} {wi : TI} {g : TG} {up : α → List (Option Sl) → List (Option Sl)} {is : List Nat} (CI : S → Ct) (s0 : S) (f : S → α → Ctl S R X) (I : Nat → S → Prop)
    (hi : XI C wi xs C1) (hg : XG g up is) (hl : Le C1 (CI s0)) (i0 : I 0 s0)
    (hI : ∀ (n : Nat) x s s', xs[n]? = some x → I n s → f s x = .nx s' → I (n + 1) s')
    (hb : ∀ (n : Nat) x s, xs[n]? = some x → I n s → XB T ⟨up x (CI s).g, (CI s).o⟩ t (f s x) CI) : XB T C (tFor wi g t) (forC xs s0 f) CI := fun F B0 D σ B H st hn hr hx => by
  refine hi F B0 σ B H _ st fun J G Y B1 H1 e1 st1 wk hG hY => ?_
  have b01 : Same B0 B1 := st1.b0
  -- within the loop the base is B1
  have up_ : ∀ {C' : Ct} {B' : Hp} {σ' : L2.St} {H' : Hp}, STB F B1 C' B' σ' H' → STB F B0 C' B' σ' H' := fun s => ⟨s.fr, s.bh, b01.trans s.b0, fun a ha => by
    rcases s.nw a ha with z | z
    · exact st1.nw a z
    · exact .inr z, s.env, s.own⟩
  refine for_it wk (fun n σ' H' => ∃ s B', I n s ∧ n ≤ xs.length ∧ forC xs s0 f = forC (xs.drop n) s f ∧ STB F B1 (CI s) B' σ' H') ?_ ?_ ?_ ?_
  · exact ⟨s0, B1, i0, Nat.zero_le _, rfl, (show STB F B1 C1 B1 σ H1 from ⟨st1.fr, st1.bh, Same.refl _, fun a ha => .inl ha, st1.env, st1.own⟩).le hl⟩
  · rintro n σ' H' _ ⟨s, B', _, _, _, st2⟩
    exact hG H' (st2.b0.trans st2.bh)
  · rintro n v σ' H2 H3 hlt ⟨s, B2, hIn, _, he, st2⟩ hy
    obtain ⟨x, hxn, hcase⟩ := hY n H2 B2 v H3 hlt hy st2.b0 st2.bh
    obtain ⟨B3, st3, rx⟩ : ∃ B3, STB F B1 (CI s) B3 σ' H3 ∧ Rp.is B3 v x := by
      rcases hcase with ⟨rfl, r⟩ | ⟨T', o', hT, rfl, r⟩
      · exact ⟨B2, st2, r⟩
      · exact ⟨_, st2.new hT o', r⟩
    rw [forC_drop hxn] at he
    refine hg F B1 _ B3 σ' H3 v x _ st3 rx fun σ2 _ st4 => ?_
    refine hb n x s hxn hIn F B1 _ σ2 B3 H3 st4 (fun s' e σ3 B4 H4 st5 => ?_) (fun r e v' B4 H4 st5 q => ?_) (fun x' e σ3 B4 H4 st5 => ?_)
    · exact ⟨s', B4, hI n x s s' hxn hIn e, hlt, by rw [he, e]; rfl, st5⟩
    · exact hr r (by rw [he, e]; rfl) v' B4 H4 (up_ st5) (T.vm b01 q)
    · exact hx x' (by rw [he, e]; rfl) σ3 B4 H4 (up_ st5)
  · rintro σ' H' ⟨s, B', _, _, he, st2⟩
    rw [List.drop_length] at he
    exact hn s he σ' B' H' (up_ st2)
/-- while c: body; m falls -/
theorem b_while (CI : S → Ct) (s0 : S) (c : S → Bool) (f : S → Ctl S R X) (I : S → Prop) (m : S → Nat) (n0 : Nat) (hl : Le C (CI s0)) (i0 : I s0) (hm0 : m s0 ≤ n0)
    (hI : ∀ s s', I s → c s = true → f s = .nx s' → I s' ∧ m s' < m s)
    (hc : ∀ s, I s → XT (CI s) tt (c s) (CI s)) (hb : ∀ s, I s → c s = true → XB T (CI s) t (f s) CI) : XB T C (tWhile tt t) (whileC c f (n0 + 1) s0) CI := fun F B0 D σ B H st hn hr hx => by
  refine ⟨fun n σ' H' => ∃ s B', I s ∧ m s ≤ n ∧ whileC c f (n0 + 1) s0 = whileC c f (n + 1) s ∧ STB F B0 (CI s) B' σ' H', ⟨n0, s0, B, i0, hm0, rfl, st.le hl⟩, ?_⟩
  rintro n σ' H' ⟨s, B', hIs, hms, he, st'⟩
  refine hc s hIs F B0 σ' B' H' _ st' fun B1 H1 e1 st1 => ?_
  cases hcs : c s with
  | false =>
    refine iteF ?_
    refine hn s ?_ σ' B1 H1 st1
    rw [he]
    show (if c s = true then _ else _) = _
    rw [hcs]; rfl
  | true =>
    refine iteT ?_
    have he' : whileC c f (n0 + 1) s0 = (f s).bind (whileC c f n) := by
      rw [he]
      show (if c s = true then _ else _) = _
      rw [hcs]; rfl
    refine ⟨fun σ2 H2 => ∃ n', n' < n ∧ ∃ s B', I s ∧ m s ≤ n' ∧ whileC c f (n0 + 1) s0 = whileC c f (n' + 1) s ∧ STB F B0 (CI s) B' σ2 H2, fun σ2 H2 h => h, ?_⟩
    refine hb s hIs hcs F B0 _ σ' B1 H1 st1 (fun s' e σ3 B4 H4 st5 => ?_) (fun r e v' B4 H4 st5 q => ?_) (fun x' e σ3 B4 H4 st5 => ?_)
    · obtain ⟨h1, h2⟩ := hI s s' hIs hcs e
      refine ⟨n - 1, by omega, s', B4, h1, by omega, ?_, st5⟩
      rw [he', e, show n - 1 + 1 = n by omega]; rfl
    · exact hr r (by rw [he', e]; rfl) v' B4 H4 st5 q
    · exact hx x' (by rw [he', e]; rfl) σ3 B4 H4 st5
end
end Fw

namespace Fw
open PySem PySem.Spec L2
open PySem.W (Datum DatumOrd Holds HoldAll SomeDatum)

/-! ### what a def is worth -/
structure Sg (R X : Type) where
  vr : R → Hp → Sl
  oc : R → List Cell
  ec : X → List Cell
  cl : X → Value
  vm : ∀ {r : R} {B0 B1 B : Hp} {v : V}, Same B0 B1 → (vr r B1).P B v → (vr r B0).P B v
def Sg.tm {R X : Type} (s : Sg R X) (E : XK) : Tm R X := ⟨s.vr, s.oc, s.ec, fun x _ H => E (s.cl x) none H, s.vm⟩
/-- a value, nothing raised, nothing changed -/
def pu (R : Type) [Rp R] : Sg R Empty := ⟨fun r _ => isa r, fun _ => [], fun x => x.elim, fun x => x.elim, fun _ h => h⟩
/-- a value or an exception of an own class, nothing changed -/
def ex (K : Fg) (R : Type) [Rp R] : Sg R Str := ⟨fun r _ => isa r, fun _ => [], fun _ => [], fun x => .ref (He.ga K x), fun _ h => h⟩
/-- a value, owned things changed -/
def io (R T : Type) [Rp R] (c : T → List Cell) : Sg (R × T) Empty := ⟨fun r _ => isa r.1, fun r => c r.2, fun x => x.elim, fun x => x.elim, fun _ h => h⟩
structure Post (B H : Hp) (I : List Cell) (B1 H1 : Hp) (O : List Cell) : Prop where
  b : Same B B1
  h : Same B1 H1
  k : ∀ a o, H a = some o → (∀ c ∈ I, a ∉ c.as) → H1 a = some o
  n : ∀ a, B1 a ≠ none → B a ≠ none ∨ H a = none ∨ ∃ c ∈ I, a ∈ c.as
  o : Own (fun _ => none) B1 H1 O
structure Fs where
  A : Type
  R : Type
  X : Type
  pre : A → Prop
  Rs : A → List Sl
  I : A → List Cell
  sg : A → Sg R X
  m : A → Ctl Empty R X
def Fs.sp (f : Fs) : Sp := fun vs H Q E => ∃ a, f.pre a ∧ ∃ B, Same B H ∧ AllS (f.Rs a) B vs ∧ Own (fun _ => none) B H (f.I a) ∧
  (∀ r, f.m a = .rt r → ∀ v B1 H1, Post B H (f.I a) B1 H1 ((f.sg a).oc r) → ((f.sg a).vr r B).P B1 v → Q v H1) ∧
  (∀ x, f.m a = .rs x → ∀ B1 H1, Post B H (f.I a) B1 H1 ((f.sg a).ec x) → E ((f.sg a).cl x) none H1)
theorem env_start : ∀ {Rs : List Sl} {B : Hp} {vs : List V} (n : Nat), AllS Rs B vs → Env (Rs.map some ++ List.replicate n none) B (vs.map some ++ List.replicate n none)
  | [], B, vs, n, h => by
    have h' : vs = [] := h
    subst h'
    show Env (List.replicate n none) B (List.replicate n none)
    induction n with
    | zero => rfl
    | succ n ih => exact ⟨none, _, rfl, fun s e => (by cases e), ih⟩
  | s :: ss, B, vs, n, ⟨v, r, h1, h2, h3⟩ => by
    subst h1
    exact ⟨some v, _, rfl, fun s' e => by
      have e : s = s' := by simpa using e
      subst e; exact ⟨v, rfl, h2⟩, env_start n h3⟩
/-- the frame of a call: all but the cells -/
def frame (H : Hp) (I : List Cell) : Hp := fun a => if (I.any fun c => c.as.contains a) = true then none else H a
theorem frame_same {H : Hp} {I : List Cell} : Same (frame H I) H := fun a o h => by
  unfold frame at h
  split at h
  · cases h
  · exact h
theorem frame_in {H : Hp} {I : List Cell} {c : Cell} {a : Addr} (hc : c ∈ I) (ha : a ∈ c.as) : frame H I a = none := by
  unfold frame
  rw [if_pos (List.any_eq_true.mpr ⟨c, hc, by simpa using ha⟩)]
theorem frame_out {H : Hp} {I : List Cell} {a : Addr} (h : ∀ c ∈ I, a ∉ c.as) : frame H I a = H a := by
  unfold frame
  rw [if_neg]
  intro z
  obtain ⟨c, hc, ha⟩ := List.any_eq_true.mp z
  exact h c hc (by simpa using ha)
theorem frame_none {H : Hp} {I : List Cell} {a : Addr} (h : frame H I a = none) : H a = none ∨ ∃ c ∈ I, a ∈ c.as := by
  by_cases z : ∃ c ∈ I, a ∈ c.as
  · exact .inr z
  · rw [frame_out fun c hc ha => z ⟨c, hc, ha⟩] at h; exact .inl h
theorem post_of {B H B1 H1 : Hp} {I O : List Cell} (st : STB (frame H I) B ⟨[], O⟩ B1 [] H1) : Post B H I B1 H1 O :=
  ⟨st.b0, st.bh, fun a o h hI => st.fr a o (by rw [frame_out hI]; exact h), fun a ha => by
    rcases st.nw a ha with z | z
    · exact .inl z
    · rcases frame_none z with z | z
      · exact .inr (.inl z)
      · exact .inr (.inr z), st.own.imp (Same.refl _) fun c hc a ha => ⟨rfl, rfl, ((st.own.mem hc).1 a ha).2⟩⟩
/-- a body by its reading -/
theorem Fs.body {f : Fs} {N : List Str} {t : TS} {vs : List V} {H : Hp} {Q : VK} {E : XK} {S : Type} {o : f.A → Ctl S f.R f.X} {CS : f.A → S → Ct} {d : f.A → S → f.R}
    (hb : ∀ a, f.pre a → XB ((f.sg a).tm E) ⟨(f.Rs a).map some ++ List.replicate (N.length - (f.Rs a).length) none, f.I a⟩ t (o a) (CS a))
    (hm : ∀ a, f.pre a → f.m a = (o a).bind fun s => .rt (d a s)) (hd : ∀ a s, f.pre a → (∀ B0 B : Hp, ((f.sg a).vr (d a s) B0).P B .non) ∧ List.Sublist ((f.sg a).oc (d a s)) (CS a s).o)
    (h : f.sp vs H Q E) : t { nx := fun _ H' => Q .non H', rt := Q } (L2.start N vs) H := by
  obtain ⟨a, hp, B, hB, hvs, ho, hr, hx⟩ := h
  have hl := hvs.len
  have env : Env ((f.Rs a).map some ++ List.replicate (N.length - (f.Rs a).length) none) B (L2.start N vs) := by
    have := env_start (N.length - (f.Rs a).length) hvs
    unfold L2.start
    rw [hl]; exact this
  refine hb a hp (frame H (f.I a)) B _ (L2.start N vs) B H ⟨frame_same, hB, Same.refl _, fun a h => .inl h, env, ho.imp (Same.refl _) fun c hc x hx => ⟨rfl, frame_in hc hx, ((ho.mem hc).1 x hx).2⟩⟩ (fun s e σ' B' H' st => ?_) (fun r e v B' H' st q => ?_) (fun x e σ' B' H' st => ?_)
  · obtain ⟨h1, h2⟩ := hd a s hp
    exact hr (d a s) (by rw [hm a hp, e]; rfl) .non B' H' (post_of (st.end_ h2)) (h1 B B')
  · exact hr r (by rw [hm a hp, e]; rfl) v B' H' (post_of st) q
  · exact hx x (by rw [hm a hp, e]; rfl) B' H' (post_of st)
theorem bind_empty {S R X : Type} (o : Ctl Empty R X) (f : Empty → Ctl S R X) : o.bind f = o.lift := by cases o with
  | nx s => exact s.elim
  | rt r => rfl
  | rs x => rfl
theorem lift_id {R X : Type} (o : Ctl Empty R X) : o.lift = o := by cases o with
  | nx s => exact s.elim
  | rt r => rfl
  | rs x => rfl
theorem lift_lift {S R X : Type} (o : Ctl Empty R X) : (o.lift : Ctl Empty R X).lift = (o.lift : Ctl S R X) := by rw [lift_id]

/-! ### a def that may be called -/
def Cal (P : Program) (w : World) (K : Fg) (mg : Str → Option Value) (base : Heap) (CX : CXT) (k : Nat) (x : Str) (sp : Sp) : Prop :=
  ∃ (f : Addr) (fd : FuncData) (ps : List Str), FnOk P w K mg base CX k f fd ps sp ∧ mg x = some (.ref f) ∧ PySem.W.keepIn K (.ref f) = true ∧ Binds K fd ps []
section
variable {X : Cx} {CX : CXT} {k j : Nat} {x : Str} {sp : Sp} {E : XK} {e : Expr} {es : List Expr} {t : TA} {p pos : Pos}
theorem pe_callC (c : Cal X.prog X.w X.K X.mg X.base CX j x sp) (hr : Room k X.A) (hj : j ≤ k) (hx : Passes CX X E) (ha : PA X (e :: es) t) (hg : Gl X x := by rfl) (hdb : (x == ("__debug__" : Str)) = false := by decide)
    (he : starEach (e :: es) X.env = (false, eval e X.env) :: starEach es X.env := by rfl) (hpl : (backTo pos (starEach es X.env)).any (·.1) = false := by rfl) : PE X (.Call (.Name x p) (e :: es) [] pos) (tCall sp [] E t) := by
  obtain ⟨f, fd, ps, F, h1, h2, h3⟩ := c
  exact pe_call F (hr.mono hj) hg h1 h2 h3 .nil hx ha hdb he hpl
end
section
variable {C C1 C2 : Ct} {ta : TA} {u : TS} {R : Sl} {E : XK} {fs : Fs}
/-- the state at a call, for the callee; behind it, for the caller -/
theorem STB.called {F B0 : Hp} {C : Ct} {B : Hp} {σ : L2.St} {H : Hp} (st : STB F B0 C B σ H) {B1 H1 : Hp} (p : Post B H [] B1 H1 []) : STB F B0 C B1 σ H1 := by
  have hk : ∀ a o, H a = some o → H1 a = some o := fun a o h => p.k a o h (fun c hc => by cases hc)
  refine ⟨fun a o h => hk a o (st.fr a o h), p.h, st.b0.trans p.b, fun a h => ?_, st.env.mono p.b, st.own.imp p.b fun c hc a ha => ?_⟩
  · rcases p.n a h with z | z | ⟨c, hc, _⟩
    · exact st.nw a z
    · exact .inr (st.fr.free z)
    · cases hc
  · have h0 := (st.own.mem hc).1 a ha
    have h1 := st.own.there hc ha
    refine ⟨?_, h0.1, ?_⟩
    · cases e : H a with
      | none => exact absurd e h1
      | some o => exact hk a o e
    · cases e : B1 a with
      | none => rfl
      | some o =>
        rcases p.n a (by rw [e]; simp) with z | z | ⟨c', hc', _⟩
        · exact absurd h0.2 z
        · exact absurd z h1
        · cases hc'
/-- .. with one cell changed -/
theorem STB.called1 {F B0 : Hp} {C : Ct} {B : Hp} {σ : L2.St} {H : Hp} (st : STB F B0 C B σ H) {B1 H1 : Hp} {j : Nat} {c c' : Cell} (hj : C.o[j]? = some c) (ha : c'.as = c.as) (p : Post B H [c] B1 H1 [c']) : STB F B0 ⟨C.g, C.o.set j c'⟩ B1 σ H1 := by
  have hcm := st.own.at hj
  have hk : ∀ a o, H a = some o → a ∉ c.as → H1 a = some o := fun a o h hn => p.k a o h (fun d hd => by
    have e : d = c := by simpa using hd
    rw [e]; exact hn)
  obtain ⟨q1, q2, _, _⟩ := p.o
  have hB1 : ∀ a ∈ c.as, B1 a = none := fun a h => (q1 a (ha ▸ h)).2
  have key : ∀ {cs : List Cell} {j : Nat}, Own F B H cs → cs[j]? = some c → Own F B1 H1 (cs.set j c') := by
    intro cs
    have other : ∀ (d : Cell), Own F B H [d] → (∀ a ∈ d.as, a ∉ c.as) → (∀ a ∈ d.as, F a = none ∧ B1 a = none) ∧ d.P B1 H1 := fun d ho hn => by
      obtain ⟨d1, d2, _, _⟩ := ho
      have hth := d.th d2
      have hH : ∀ a ∈ d.as, H1 a = H a := fun a h => by
        cases e : H a with
        | none => exact absurd e (hth a h)
        | some o => exact hk a o e (hn a h)
      refine ⟨fun a h => ⟨(d1 a h).1, ?_⟩, d.mono p.b (d.loc hH d2)⟩
      cases e : B1 a with
      | none => rfl
      | some o =>
        rcases p.n a (by rw [e]; simp) with z | z | ⟨c2, hc2, ha2⟩
        · exact absurd (d1 a h).2 z
        · exact absurd z (hth a h)
        · have e2 : c2 = c := by simpa using hc2
          exact absurd (e2 ▸ ha2) (hn a h)
    induction cs with
    | nil => intro j _ h; simp at h
    | cons d cs ih =>
      intro j ho h
      obtain ⟨d1, d2, d3, d4⟩ := ho
      cases j with
      | zero =>
        have e : d = c := by simpa using h
        subst e
        refine ⟨fun a h => ⟨(d1 a (ha ▸ h)).1, hB1 a (ha ▸ h)⟩, q2, fun x hx a h => d3 x hx a (ha ▸ h), ?_⟩
        have rest : ∀ {l : List Cell}, Own F B H l → (∀ x ∈ l, ∀ a ∈ d.as, a ∉ x.as) → Own F B1 H1 l := by
          intro l
          induction l with
          | nil => intro _ _; trivial
          | cons x l il =>
            intro ho hn
            obtain ⟨x1, x2, x3, x4⟩ := ho
            have := other x ⟨x1, x2, fun _ h => (by cases h), trivial⟩ (fun a h h' => hn x (by simp) a h' h)
            exact ⟨this.1, this.2, x3, il x4 fun y hy => hn y (by simp [hy])⟩
        exact rest d4 d3
      | succ j =>
        have h : cs[j]? = some c := by simpa using h
        have hm := List.mem_of_getElem? h
        have := other d ⟨d1, d2, fun _ h => (by cases h), trivial⟩ (fun a hh => d3 c hm a hh)
        refine ⟨this.1, this.2, fun x hx a h2 => ?_, ih d4 h⟩
        rcases List.mem_or_eq_of_mem_set hx with z | z
        · exact d3 x z a h2
        · subst z; rw [ha]; exact d3 c hm a h2
  refine ⟨fun a o h => ?_, p.h, st.b0.trans p.b, fun a h => ?_, st.env.mono p.b, key st.own hj⟩
  · exact hk a o (st.fr a o h) fun z => by rw [(hcm.1 a z).1] at h; cases h
  · rcases p.n a h with z | z | ⟨c2, hc2, ha2⟩
    · exact st.nw a z
    · exact .inr (st.fr.free z)
    · have e2 : c2 = c := by simpa using hc2
      exact .inr (hcm.1 a (e2 ▸ ha2)).1
theorem own0 {F B H : Hp} {c : Cell} {cs : List Cell} {j : Nat} (h : Own F B H cs) (hj : cs[j]? = some c) : Own (fun _ => none) B H [c] := ⟨fun a ha => ⟨rfl, ((h.at hj).1 a ha).2⟩, (h.at hj).2, fun _ h => (by cases h), trivial⟩
/-- a call that changes nothing and does not raise -/
theorem x_call (a : fs.A) (hp : fs.pre a) {r : fs.R} (ha : XA C ta (fs.Rs a) C1) (hm : fs.m a = .rt r := by rfl) (hI : fs.I a = [] := by rfl) (ho : (fs.sg a).oc r = [] := by rfl) (hV : ∀ (B0 B : Hp) v, ((fs.sg a).vr r B0).P B v → R.P B v := by exact fun _ _ _ h => h) :
    XE C (tCall fs.sp [] E ta) R C1 := fun F B0 σ B H Q st q => ha F B0 σ B H _ st fun vs B1 H1 rv e1 st1 => by
  rw [List.append_nil]
  refine ⟨a, hp, B1, st1.bh, rv, by rw [hI]; trivial, fun r' e v B2 H2 p q2 => ?_, fun x e => ?_⟩
  · rw [hm] at e; cases e
    rw [hI, ho] at p
    exact q v B2 H2 (hV B1 B2 v q2) (e1.trans p.b) (st1.called p)
  · rw [hm] at e; cases e
/-- one owned thing is changed -/
theorem x_call1 (j : Nat) (a : fs.A) (hp : fs.pre a) {r : fs.R} {c c' : Cell} (ha : XA C ta (fs.Rs a) C1) (hm : fs.m a = .rt r := by rfl) (hI : fs.I a = [c] := by rfl) (ho : (fs.sg a).oc r = [c'] := by rfl) (hj : C1.o[j]? = some c := by rfl) (has : c'.as = c.as := by rfl)
    (hV : ∀ (B0 B : Hp) v, ((fs.sg a).vr r B0).P B v → R.P B v := by exact fun _ _ _ h => h) :
    XE C (tCall fs.sp [] E ta) R ⟨C1.g, C1.o.set j c'⟩ := fun F B0 σ B H Q st q => ha F B0 σ B H _ st fun vs B1 H1 rv e1 st1 => by
  rw [List.append_nil]
  refine ⟨a, hp, B1, st1.bh, rv, by rw [hI]; exact own0 st1.own hj, fun r' e v B2 H2 p q2 => ?_, fun x e => ?_⟩
  · rw [hm] at e; cases e
    rw [hI, ho] at p
    exact q v B2 H2 (hV B1 B2 v q2) (e1.trans p.b) (st1.called1 hj has p)
  · rw [hm] at e; cases e
end
/-! ### calls that may raise, as statements -/
def Ctl.andThen {S R R' X : Type} : Ctl Empty R' X → (R' → Ctl S R X) → Ctl S R X
  | .nx s, _ => s.elim
  | .rt r, f => f r
  | .rs x, _ => .rs x
section
variable {S R X : Type} {T : Tm R Str} {C C1 : Ct} {u : TS} {ta : TA} {CS : S → Ct} {E : XK} {fs : Fs}
end
section
variable {A0 R0 : Type} {pre : A0 → Prop} {Rs : A0 → List Sl} {sg : A0 → Sg R0 Str} {m : A0 → Ctl Empty R0 Str} {S R : Type} {T : Tm R Str} {C C1 : Ct} {u : TS} {ta : TA} {CS : S → Ct} {E : XK}
/-- e's reading at a call that may raise: both ways -/
theorem call_raises (a : A0) (hp : pre a) (ha : XA C ta (Rs a) C1) (ho : ∀ r, (sg a).oc r = []) (he : ∀ x, (sg a).ec x = []) {F B0 : Hp} {σ : L2.St} {B H : Hp} {Q : VK} (st : STB F B0 C B σ H)
    (hq : ∀ r, m a = .rt r → ∀ v B' H', ((sg a).vr r B').P B' v ∨ True → (∃ B1, ((sg a).vr r B1).P B' v) → Same B B' → STB F B0 C1 B' σ H' → Q v H')
    (hx : ∀ x, m a = .rs x → ∀ B' H', Same B B' → STB F B0 C1 B' σ H' → E ((sg a).cl x) none H') :
    tCall (Fs.mk A0 R0 Str pre Rs (fun _ => []) sg m).sp [] E ta σ H Q := ha F B0 σ B H _ st fun vs B1 H1 rv e1 st1 => by
  rw [List.append_nil]
  refine ⟨a, hp, B1, st1.bh, rv, trivial, fun r e v B2 H2 p q2 => ?_, fun x e B2 H2 p => ?_⟩
  · have p' : Post B1 H1 [] B2 H2 ((sg a).oc r) := p
    rw [ho] at p'
    exact hq r e v B2 H2 (.inr trivial) ⟨B1, q2⟩ (e1.trans p'.b) (st1.called p')
  · have p' : Post B1 H1 [] B2 H2 ((sg a).ec x) := p
    rw [he] at p'
    exact hx x e B2 H2 (e1.trans p'.b) (st1.called p')
theorem b_dropX {o : R0 → Ctl S R Str} (a : A0) (hp : pre a) (ha : XA C ta (Rs a) C1) (k : ∀ r, m a = .rt r → XB T C1 u (o r) CS)
    (hw : ∀ x (σ : L2.St) H, T.wx x σ H → E ((sg a).cl x) none H) (hc : ∀ x, List.Sublist (T.ec x) C1.o) (ho : ∀ r, (sg a).oc r = [] := by exact fun _ => rfl) (he : ∀ x, (sg a).ec x = [] := by exact fun _ => rfl) :
    XB T C (tSeq (tDrop (tCall (Fs.mk A0 R0 Str pre Rs (fun _ => []) sg m).sp [] E ta)) u) ((m a).andThen o) CS := fun F B0 D σ B H st hn hr hx =>
  call_raises (m := m) a hp ha ho he st (fun r e v B' H' _ _ e1 st1 => k r e F B0 D σ B' H' st1 (fun s e' => hn s (by rw [e]; exact e')) (fun r' e' => hr r' (by rw [e]; exact e')) fun x e' => hx x (by rw [e]; exact e'))
    fun x e B' H' e1 st1 => hw x σ H' (hx x (by rw [e]; rfl) σ B' H' (st1.end_ (hc x)))
theorem b_asgX {o : R0 → Ctl S R Str} {i : Nat} {Rv : R0 → Sl} (a : A0) (hp : pre a) (ha : XA C ta (Rs a) C1) (k : ∀ r, m a = .rt r → XB T ⟨C1.g.set i (some (Rv r)), C1.o⟩ u (o r) CS) (hV : ∀ r (B0 B : Hp) v, ((sg a).vr r B0).P B v → (Rv r).P B v)
    (hw : ∀ x (σ : L2.St) H, T.wx x σ H → E ((sg a).cl x) none H) (hc : ∀ x, List.Sublist (T.ec x) C1.o) (ho : ∀ r, (sg a).oc r = [] := by exact fun _ => rfl) (he : ∀ x, (sg a).ec x = [] := by exact fun _ => rfl) :
    XB T C (tSeq (tAsg (tCall (Fs.mk A0 R0 Str pre Rs (fun _ => []) sg m).sp [] E ta) (gName i)) u) ((m a).andThen o) CS := fun F B0 D σ B H st hn hr hx =>
  call_raises (m := m) a hp ha ho he st (fun r e v B' H' _ ⟨B1, q⟩ e1 st1 => k r e F B0 D _ B' H' (st1.set i (hV r B1 B' v q)) (fun s e' => hn s (by rw [e]; exact e')) (fun r' e' => hr r' (by rw [e]; exact e')) fun x e' => hx x (by rw [e]; exact e'))
    fun x e B' H' e1 st1 => hw x σ H' (hx x (by rw [e]; rfl) σ B' H' (st1.end_ (hc x)))
theorem b_retX {o : R0 → R} (a : A0) (hp : pre a) (ha : XA C ta (Rs a) C1) (hV : ∀ r (B0 B1 B : Hp) v, ((sg a).vr r B1).P B v → (T.vr (o r) B0).P B v)
    (hw : ∀ x (σ : L2.St) H, T.wx x σ H → E ((sg a).cl x) none H) (hc : ∀ x, List.Sublist (T.ec x) C1.o) (hco : ∀ r, List.Sublist (T.oc r) C1.o) (ho : ∀ r, (sg a).oc r = [] := by exact fun _ => rfl) (he : ∀ x, (sg a).ec x = [] := by exact fun _ => rfl) :
    XB T C (tRet (tCall (Fs.mk A0 R0 Str pre Rs (fun _ => []) sg m).sp [] E ta)) ((m a).andThen fun r => .rt (o r)) CS := fun F B0 D σ B H st hn hr hx =>
  call_raises (m := m) a hp ha ho he st (fun r e v B' H' _ ⟨B1, q⟩ e1 st1 => hr (o r) (by rw [e]; rfl) v B' H' (st1.end_ (hco _)) (hV r B0 B1 B' v q))
    fun x e B' H' e1 st1 => hw x σ H' (hx x (by rw [e]; rfl) σ B' H' (st1.end_ (hc x)))
/-- raise C('..') -/
def tRs (C : Value) (W : WX) : TS := fun _ σ H => W C none σ H
theorem b_raise {W : WX} {Cv : Value} {x : Str} (hw : ∀ (σ : L2.St) H, T.wx x σ H → W Cv none σ H) (hc : List.Sublist (T.ec x) C.o) : XB T C (tRs Cv W) (.rs x) CS := fun F B0 D σ B H st hn hr hx =>
  hw σ H (hx x rfl σ B H (st.end_ hc))
end
end Fw

namespace Fw
open PySem PySem.Spec L2
open PySem.W (Datum DatumOrd Holds HoldAll SomeDatum)

/-! ### blocks: more shapes -/
section
variable {S S' R X : Type} {T : Tm R X} {C C1 C2 : Ct} {t u w : TS} {te : TE} {tt : TT} {o o1 o2 : Ctl S R X} {CS : S → Ct} {CS' : S' → Ct} {k : S → Ctl S' R X} {b : Bool} {Rv : Sl}
theorem b_retS {r : R} (h : XE C te Rv C1) (hV : ∀ (B0 B : Hp) v, Rv.P B v → (T.vr r B0).P B v := by exact fun _ _ _ h => h) (hO : List.Sublist (T.oc r) C1.o := by exact List.nil_sublist _) : XB T C (tSeq (tRet te) u) (.rt r) CS := fun F B0 D σ B H st hn hr hx =>
  b_ret (CS := CS) h hV hO F B0 { D with nx := u D } σ B H st (fun s e => by cases e) hr hx
theorem b_end {o : Ctl Empty R X} {CE : Empty → Ct} (h : XB T C t o CE) : XB T C (tSeq t u) (o.lift : Ctl S R X) CS := fun F B0 D σ B H st hn hr hx =>
  h F B0 { D with nx := u D } σ B H st (fun s => s.elim) (fun r e => hr r (by rw [e]; rfl)) (fun x e => hx x (by rw [e]; rfl))
theorem b_seq1 (h1 : XB T C t o CS) : XB T C (tSeq t tNext) o CS := fun F B0 D σ B H st hn hr hx => h1 F B0 { D with nx := tNext D } σ B H st hn hr hx
theorem forC_at {α : Type} {xs : List α} {f : S → α → Ctl S R X} {I : Nat → S → Prop} {s0 s : S} (h0 : I 0 s0) (hs : ∀ (n : Nat) x s s', xs[n]? = some x → I n s → f s x = .nx s' → I (n + 1) s') (h : forC xs s0 f = .nx s) : I xs.length s := by
  have := forC_inv (k := 0) I h0 (fun n x s s' hx hI he => by rw [Nat.zero_add] at hI ⊢; exact hs n x s s' hx hI he) h
  rwa [Nat.zero_add] at this
theorem b_forS {α : Type} [Rp α] {xs : List α} {wi : TI} {g : TG} {up : α → List (Option Sl) → List (Option Sl)} {is : List Nat} (CI : S → Ct) (s0 : S) (f : S → α → Ctl S R X) (I : Nat → S → Prop)
    (hi : XI C wi xs C1) (hg : XG g up is) (hl : Le C1 (CI s0)) (i0 : I 0 s0)
    (hI : ∀ (n : Nat) x s s', xs[n]? = some x → I n s → f s x = .nx s' → I (n + 1) s')
    (hb : ∀ (n : Nat) x s, xs[n]? = some x → I n s → XB T ⟨up x (CI s).g, (CI s).o⟩ t (f s x) CI)
    (hk : ∀ s, I xs.length s → XB T (CI s) u (k s) CS') : XB T C (tSeq (tFor wi g t) u) ((forC xs s0 f).bind k) CS' :=
  b_seq (b_for CI s0 f I hi hg hl i0 hI hb) fun s e => hk s (forC_at i0 hI e)
/-- a loop that carries nothing -/
theorem b_forU {α : Type} [Rp α] {xs : List α} {wi : TI} {g : TG} {up : α → List (Option Sl) → List (Option Sl)} {is : List Nat} {k : Unit → Ctl S' R X} (CI : Ct) (f : α → Ctl Unit R X)
    (hi : XI C wi xs C1) (hg : XG g up is) (hl : Le C1 CI)
    (hb : ∀ (n : Nat) x, xs[n]? = some x → XB T ⟨up x CI.g, CI.o⟩ t (f x) (fun _ => CI))
    (hk : XB T CI u (k ()) CS') : XB T C (tSeq (tFor wi g t) u) ((forC xs () fun _ x => f x).bind k) CS' :=
  b_forS (fun _ => CI) () (fun _ x => f x) (fun _ _ => True) hi hg hl trivial (fun _ _ _ _ _ _ _ => trivial) (fun n x _ hx _ => hb n x hx) fun _ _ => hk
theorem whileC_inv {c : S → Bool} {f : S → Ctl S R X} (I : S → Prop) (m : S → Nat) (hI : ∀ s s', I s → c s = true → f s = .nx s' → I s' ∧ m s' < m s) : ∀ (n : Nat) {s0 s : S}, m s0 < n → I s0 → whileC c f n s0 = .nx s → I s ∧ c s = false
  | 0, s0, s, hm, _, _ => by omega
  | n + 1, s0, s, hm, h0, h => by
    have h : (if c s0 = true then (f s0).bind (whileC c f n) else .nx s0) = .nx s := h
    cases hc : c s0 with
    | false =>
      rw [hc] at h
      have : s0 = s := by injection h
      subst this; exact ⟨h0, hc⟩
    | true =>
      rw [hc] at h
      have h : (f s0).bind (whileC c f n) = .nx s := h
      cases e : f s0 with
      | nx s1 =>
        rw [e] at h
        obtain ⟨h1, h2⟩ := hI s0 s1 h0 hc e
        exact whileC_inv I m hI n (by omega) h1 h
      | rt r => rw [e] at h; cases h
      | rs r => rw [e] at h; cases h
theorem b_whileS (CI : S → Ct) (s0 : S) (c : S → Bool) (f : S → Ctl S R X) (I : S → Prop) (m : S → Nat) (n0 : Nat) (hl : Le C (CI s0)) (i0 : I s0) (hm0 : m s0 ≤ n0)
    (hI : ∀ s s', I s → c s = true → f s = .nx s' → I s' ∧ m s' < m s)
    (hc : ∀ s, I s → XT (CI s) tt (c s) (CI s)) (hb : ∀ s, I s → c s = true → XB T (CI s) t (f s) CI) (hk : ∀ s, I s → c s = false → XB T (CI s) u (k s) CS') : XB T C (tSeq (tWhile tt t) u) ((whileC c f (n0 + 1) s0).bind k) CS' :=
  b_seq (b_while CI s0 c f I m n0 hl i0 hm0 hI hc hb) fun s e => let h := whileC_inv I m hI (n0 + 1) (by omega) i0 e; hk s h.1 h.2
/-! ### changes of owned things, as statements -/
/-- p.append(e) -/
theorem b_app {α : Type} [Rp α] {K : Fg} {ta : TE} {xs : List α} {x : α} {p : Addr} (j : Nat) (ha : XE C ta (isr p) C) (h : XE C te (isa x) C1) (hz : xs.length < 16777216) (k : XB T ⟨C1.g, C1.o.set j (lstC p (xs ++ [x]))⟩ u o CS)
    (hj0 : C.o[j]? = some (lstC p xs) := by rfl) (hj : C1.o[j]? = some (lstC p xs) := by rfl) :
    XB T C (tSeq (tDrop (tBM K "list" rAppend ta (tCons te tNil))) u) o CS := fun F B0 D σ B H st hn hr hx =>
  ha F B0 σ B H _ st fun v B1 H1 rv e1 st1 => by
    have rv' : v = .ref p := rv
    subst rv'
    obtain ⟨vs1, hp1, _⟩ := (st1.own.at hj0).2
    refine ⟨.inl ⟨rfl, vs1, SqL.of hp1⟩, ?_⟩
    refine h F B0 σ B1 H1 _ st1 fun y B2 H2 ry e2 st2 => ?_
    obtain ⟨vs, hp, hv⟩ := (st2.own.at hj).2
    refine ⟨p, vs, y, rfl, rfl, hp, by rw [hv.len, sizeLine_eq]; exact hz, ?_⟩
    exact k F B0 D σ B2 _ (st2.upd (c' := lstC p (xs ++ [x])) hj rfl (fun a ha => upd_ne fun z => ha (by simp [lstC, z])) ⟨_, upd_same, hv.app ⟨ry, trivial⟩⟩) hn hr hx
/-- p.extend(list) -/
theorem b_ext {α : Type} [Rp α] {K : Fg} {ta : TE} {xs ys : List α} {p : Addr} (j : Nat) (ha : XE C ta (isr p) C) (h : XE C te (isa ys) C1) (hz : xs.length + ys.length ≤ 16777216) (k : XB T ⟨C1.g, C1.o.set j (lstC p (xs ++ ys))⟩ u o CS)
    (hj0 : C.o[j]? = some (lstC p xs) := by rfl) (hj : C1.o[j]? = some (lstC p xs) := by rfl) :
    XB T C (tSeq (tDrop (tBM K "list" rExtend ta (tCons te tNil))) u) o CS := fun F B0 D σ B H st hn hr hx =>
  ha F B0 σ B H _ st fun v B1 H1 rv e1 st1 => by
    have rv' : v = .ref p := rv
    subst rv'
    obtain ⟨vs1, hp1, _⟩ := (st1.own.at hj0).2
    refine ⟨.inl ⟨rfl, vs1, SqL.of hp1⟩, ?_⟩
    refine h F B0 σ B1 H1 _ st1 fun y B2 H2 ry e2 st2 => ?_
    obtain ⟨vs, hp, hv⟩ := (st2.own.at hj).2
    obtain ⟨q, ws, rfl, hq, hw⟩ := ry
    refine ⟨p, q, vs, ws, rfl, rfl, hp, st2.bh _ _ hq, by rw [hv.len, hw.len, sizeLine_eq]; exact hz, ?_⟩
    exact k F B0 D σ B2 _ (st2.upd (c' := lstC p (xs ++ ys)) hj rfl (fun a ha => upd_ne fun z => ha (by simp [lstC, z])) ⟨_, upd_same, hv.app hw⟩) hn hr hx
/-- p[i] = e -/
def setI {β : Type} (xs : List β) (i : Int) (x : β) : List β := match ixN xs.length i with
  | some j => xs.set j x
  | none => xs
theorem b_setL {α : Type} [Rp α] {to ti : TE} {xs : List α} {x : α} {i : Int} {p : Addr} (j : Nat) (h : XE C te (isa x) C1) (ho : XE C1 to (isr p) C1) (hi : XE C1 ti (isa i) C1) (hb : Ib xs.length i) (k : XB T ⟨C1.g, C1.o.set j (lstC p (setI xs i x))⟩ u o CS)
    (hj : C1.o[j]? = some (lstC p xs) := by rfl) : XB T C (tSeq (tAsg te (gSub to ti rSetL)) u) o CS := fun F B0 D σ B H st hn hr hx =>
  h F B0 σ B H _ st fun v B1 H1 rv e1 st1 => ho F B0 σ B1 H1 _ st1 fun v2 B2 H2 rv2 e2 st2 => hi F B0 σ B2 H2 _ st2 fun v3 B3 H3 rv3 e3 st3 => by
    have rv2' : v2 = .ref p := rv2
    subst rv2'
    have rv3' : v3 = .int i := rv3
    subst rv3'
    obtain ⟨vs, hp, hv⟩ := (st3.own.at hj).2
    obtain ⟨n, hn1, hn2⟩ := atI_some (xs := xs) hb.1 hb.2
    refine ⟨p, vs, i, n, rfl, rfl, hp, by rw [hv.len]; exact hn1, ?_⟩
    refine k F B0 D σ B3 _ (st3.upd (c' := lstC p (setI xs i x)) hj rfl (fun a ha => upd_ne fun z => ha (by simp [lstC, z])) ⟨_, upd_same, ?_⟩) hn hr hx
    unfold setI; rw [hn1]
    exact hv.set (Rp.mono (e2.trans e3) rv) n
end
/-! ### dicts -/
def dget {κ β : Type} [DecidableEq κ] (d : List (κ × β)) (k : κ) : Option β := (d.find? fun p => decide (p.1 = k)).map (·.2)
def dput {κ β : Type} [DecidableEq κ] (d : List (κ × β)) (k : κ) (x : β) : List (κ × β) := if (d.any fun p => decide (p.1 = k)) = true then d.map fun p => if p.1 = k then (p.1, x) else p else d ++ [(k, x)]
def dmk {κ β : Type} [DecidableEq κ] (l : List (κ × β)) : List (κ × β) := l.foldl (fun d p => dput d p.1 p.2) []
def dhas {κ β : Type} [DecidableEq κ] (d : List (κ × β)) (k : κ) : Bool := (dget d k).isSome
section
variable {κ β : Type} [DecidableEq κ] [Ky κ] [Rp β] {B : Hp}
theorem kv_eq {k k' : κ} : decide (Ky.k k' = Ky.k k) = decide (k' = k) := decide_eq_decide.mpr ⟨Ky.inj, fun h => by rw [h]⟩
theorem kv_get : ∀ {vs : List (Key × V)} {d : List (κ × β)} (k : κ), kvAll B vs d → (match dget d k with | some x => ∃ v, valV vs (Ky.k k) = some v ∧ Rp.is B v x | none => valV vs (Ky.k k) = none)
  | [], [], k, _ => rfl
  | p :: vs, q :: d, k, ⟨⟨h1, h2⟩, h3⟩ => by
    have ih := kv_get k h3
    unfold dget valV at *
    rw [List.find?_cons, List.find?_cons, h1, kv_eq]
    cases decide (q.1 = k) with
    | true => exact ⟨p.2, rfl, h2⟩
    | false => exact ih
theorem kv_any : ∀ {vs : List (Key × V)} {d : List (κ × β)} (k : κ), kvAll B vs d → (vs.any fun kv => decide (kv.1 = Ky.k k)) = (d.any fun p => decide (p.1 = k))
  | [], [], k, _ => rfl
  | p :: vs, q :: d, k, ⟨⟨h1, h2⟩, h3⟩ => by rw [List.any_cons, List.any_cons, h1, kv_eq, kv_any k h3]
theorem kv_put {vs : List (Key × V)} {d : List (κ × β)} {k : κ} {v : V} {x : β} (h : kvAll B vs d) (r : Rp.is B v x) : kvAll B (putK vs (Ky.k k) v) (dput d k x) := by
  unfold putK dput
  rw [kv_any k h]
  split
  · have : ∀ {vs : List (Key × V)} {d : List (κ × β)}, kvAll B vs d → kvAll B (vs.map fun kv => if kv.1 = Ky.k k then (kv.1, v) else kv) (d.map fun p => if p.1 = k then (p.1, x) else p) := by
      intro vs
      induction vs with
      | nil => intro d h; cases d with
        | nil => trivial
        | cons a b => exact h.elim
      | cons p vs ih =>
        intro d h
        cases d with
        | nil => exact h.elim
        | cons q d =>
          obtain ⟨⟨h1, h2⟩, h3⟩ := h
          rw [List.map_cons, List.map_cons]
          refine ⟨?_, ih h3⟩
          have e : (p.1 = Ky.k k) ↔ (q.1 = k) := by rw [h1]; exact ⟨Ky.inj, fun h => by rw [h]⟩
          by_cases hk : q.1 = k
          · rw [if_pos (e.mpr hk), if_pos hk]; exact ⟨h1, r⟩
          · rw [if_neg (fun z => hk (e.mp z)), if_neg hk]; exact ⟨h1, h2⟩
    exact this h
  · exact All2.app h ⟨⟨rfl, r⟩, trivial⟩
theorem dput_len {κ β : Type} [DecidableEq κ] (d : List (κ × β)) (k : κ) (x : β) : (dput d k x).length ≤ d.length + 1 := by
  unfold dput
  split
  · rw [List.length_map]; omega
  · rw [List.length_append]; simp
theorem kv_merge : ∀ {ps : List (Key × V)} {l : List (κ × β)} {vs : List (Key × V)} {d : List (κ × β)}, kvAll B ps l → kvAll B vs d → kvAll B (mergeK vs ps) (l.foldl (fun d p => dput d p.1 p.2) d)
  | [], [], _, _, _, h => h
  | p :: ps, q :: l, vs, d, ⟨⟨h1, h2⟩, h3⟩, h => by
    show kvAll B (mergeK (putK vs p.1 p.2) ps) (l.foldl _ (dput d q.1 q.2))
    rw [h1]
    exact kv_merge h3 (kv_put h h2)
end
section
variable {C C1 C2 : Ct} {ta tb tc te : TE} {κ β : Type} [DecidableEq κ] [Ky κ] [Rp β] {K : Fg}
theorem ky_is {B : Hp} {v : V} {k : κ} (h : Rp.is B v k) : v = kV (Ky.k k) := Ky.isk.mp h
/-- k in d, d a dict that stands -/
theorem x_inD {k : κ} {d : Dc κ β} (ha : XE C ta (isa k) C1) (hb : XE C1 tb (isa d) C2) : XE C (tDIn ta tb) (isa (dhas d.l k)) C2 := fun F B0 σ B H Q st q =>
  ha F B0 σ B H _ st fun y B1 H1 ry e1 st1 => hb F B0 σ B1 H1 _ st1 fun x B2 H2 rx e2 st2 => by
    obtain ⟨p, vs, rfl, hp, hv⟩ := rx
    have := kv_get k hv
    refine ⟨p, valV vs (Ky.k k), rfl, ky_is ry ▸ DGet.k (st2.bh _ _ hp), q _ B2 H2 ?_ (e1.trans e2) st2⟩
    show V.bl _ = V.bl (dget d.l k).isSome
    cases e : dget d.l k with
    | none => rw [e] at this; rw [this]; rfl
    | some z => rw [e] at this; obtain ⟨v, h1, _⟩ := this; rw [h1]; rfl
theorem x_niD {k : κ} {d : Dc κ β} (ha : XE C ta (isa k) C1) (hb : XE C1 tb (isa d) C2) : XE C (tDNotIn ta tb) (isa (!dhas d.l k)) C2 := fun F B0 σ B H Q st q =>
  ha F B0 σ B H _ st fun y B1 H1 ry e1 st1 => hb F B0 σ B1 H1 _ st1 fun x B2 H2 rx e2 st2 => by
    obtain ⟨p, vs, rfl, hp, hv⟩ := rx
    have := kv_get k hv
    refine ⟨p, valV vs (Ky.k k), rfl, ky_is ry ▸ DGet.k (st2.bh _ _ hp), q _ B2 H2 ?_ (e1.trans e2) st2⟩
    show V.bl _ = V.bl (!(dget d.l k).isSome)
    cases e : dget d.l k with
    | none => rw [e] at this; rw [this]; rfl
    | some z => rw [e] at this; obtain ⟨v, h1, _⟩ := this; rw [h1]; rfl
/-- of an owned dict -/
theorem x_inDO {k : κ} {d : List (κ × β)} {p : Addr} (j : Nat) (ha : XE C ta (isa k) C1) (hb : XE C1 tb (isr p) C2) (hj : C2.o[j]? = some (dicC p d) := by rfl) : XE C (tDIn ta tb) (isa (dhas d k)) C2 := fun F B0 σ B H Q st q =>
  ha F B0 σ B H _ st fun y B1 H1 ry e1 st1 => hb F B0 σ B1 H1 _ st1 fun x B2 H2 rx e2 st2 => by
    have rx' : x = .ref p := rx
    subst rx'
    obtain ⟨vs, hp, hv⟩ := (st2.own.at hj).2
    have := kv_get k hv
    refine ⟨p, valV vs (Ky.k k), rfl, ky_is ry ▸ DGet.k hp, q _ B2 H2 ?_ (e1.trans e2) st2⟩
    show V.bl _ = V.bl (dget d k).isSome
    cases e : dget d k with
    | none => rw [e] at this; rw [this]; rfl
    | some z => rw [e] at this; obtain ⟨v, h1, _⟩ := this; rw [h1]; rfl
theorem x_niDO {k : κ} {d : List (κ × β)} {p : Addr} (j : Nat) (ha : XE C ta (isa k) C1) (hb : XE C1 tb (isr p) C2) (hj : C2.o[j]? = some (dicC p d) := by rfl) : XE C (tDNotIn ta tb) (isa (!dhas d k)) C2 := fun F B0 σ B H Q st q =>
  ha F B0 σ B H _ st fun y B1 H1 ry e1 st1 => hb F B0 σ B1 H1 _ st1 fun x B2 H2 rx e2 st2 => by
    have rx' : x = .ref p := rx
    subst rx'
    obtain ⟨vs, hp, hv⟩ := (st2.own.at hj).2
    have := kv_get k hv
    refine ⟨p, valV vs (Ky.k k), rfl, ky_is ry ▸ DGet.k hp, q _ B2 H2 ?_ (e1.trans e2) st2⟩
    show V.bl _ = V.bl (!(dget d k).isSome)
    cases e : dget d k with
    | none => rw [e] at this; rw [this]; rfl
    | some z => rw [e] at this; obtain ⟨v, h1, _⟩ := this; rw [h1]; rfl
/-- d[k] -/
def dat [Inhabited β] (d : List (κ × β)) (k : κ) : β := (dget d k).getD default
theorem x_getD [Inhabited β] {k : κ} {d : Dc κ β} (ha : XE C ta (isa d) C1) (hb : XE C1 tb (isa k) C2) (hk : (dget d.l k).isSome = true) : XE C (tDGet ta tb) (isa (dat d.l k)) C2 := fun F B0 σ B H Q st q =>
  ha F B0 σ B H _ st fun x B1 H1 rx e1 st1 => hb F B0 σ B1 H1 _ st1 fun y B2 H2 ry e2 st2 => by
    obtain ⟨p, vs, rfl, hp, hv⟩ := rx
    have := kv_get k hv
    cases e : dget d.l k with
    | none => rw [e] at hk; cases hk
    | some z =>
      rw [e] at this
      obtain ⟨v, h1, h2⟩ := this
      have hp2 := st2.bh _ _ (e2 _ _ hp)
      refine ⟨p, v, rfl, ?_, q _ B2 H2 ?_ (e1.trans e2) st2⟩
      · rw [← h1, ky_is ry]; exact DGet.k hp2
      · show Rp.is B2 v ((dget d.l k).getD default)
        rw [e]; exact Rp.mono e2 h2
theorem x_getDO [Inhabited β] {k : κ} {d : List (κ × β)} {p : Addr} (j : Nat) (ha : XE C ta (isr p) C1) (hb : XE C1 tb (isa k) C2) (hk : (dget d k).isSome = true) (hj : C2.o[j]? = some (dicC p d) := by rfl) : XE C (tDGet ta tb) (isa (dat d k)) C2 := fun F B0 σ B H Q st q =>
  ha F B0 σ B H _ st fun x B1 H1 rx e1 st1 => hb F B0 σ B1 H1 _ st1 fun y B2 H2 ry e2 st2 => by
    have rx' : x = .ref p := rx
    subst rx'
    obtain ⟨vs, hp, hv⟩ := (st2.own.at hj).2
    have := kv_get k hv
    cases e : dget d k with
    | none => rw [e] at hk; cases hk
    | some z =>
      rw [e] at this
      obtain ⟨v, h1, h2⟩ := this
      refine ⟨p, v, rfl, ?_, q _ B2 H2 ?_ (e1.trans e2) st2⟩
      · rw [← h1, ky_is ry]; exact DGet.k hp
      · show Rp.is B2 v ((dget d k).getD default)
        rw [e]; exact h2
/-- d[k] = e -/
theorem b_dput {S R X : Type} {T : Tm R X} {u : TS} {o : Ctl S R X} {CS : S → Ct} {k : κ} {x : β} {d : List (κ × β)} {p : Addr} (j : Nat) (h : XE C te (isa x) C1) (hd : XE C1 ta (isr p) C1) (hk : XE C1 tb (isa k) C1) (hz : d.length < 16777216)
    (c : XB T ⟨C1.g, C1.o.set j (dicC p (dput d k x))⟩ u o CS) (hj : C1.o[j]? = some (dicC p d) := by rfl) : XB T C (tSeq (sDPut ta tb te) u) o CS := fun F B0 D σ B H st hn hr hx =>
  h F B0 σ B H _ st fun v B1 H1 rv e1 st1 => hd F B0 σ B1 H1 _ st1 fun v2 B2 H2 rv2 e2 st2 => hk F B0 σ B2 H2 _ st2 fun v3 B3 H3 rv3 e3 st3 => by
    have rv2' : v2 = .ref p := rv2
    subst rv2'
    obtain ⟨vs, hp, hv⟩ := (st3.own.at hj).2
    refine ⟨p, _, rfl, ky_is rv3 ▸ DPut.k (v := v) hp (by rw [hv.len, sizeLine_eq]; exact hz), ?_⟩
    exact c F B0 D σ B3 _ (st3.upd (c' := dicC p (dput d k x)) hj rfl (fun a ha => upd_ne fun z => ha (by simp [dicC, z])) ⟨_, upd_same, kv_put hv (Rp.mono (e2.trans e3) rv)⟩) hn hr hx
/-- dict(pairs) -/
abbrev rDictP (K : Fg) : List V → Hp → VK → Prop := fun xs H Q => ∃ (a : Addr) (ps : List Addr) (kvs : List (Key × V)), xs = [.ref a] ∧ SqL K H a (ps.map V.ref) ∧ Paired (fun p kv => SqT K H p [kV kv.1, kv.2]) ps kvs ∧
    ∀ p, H p = none → Q (.ref p) (upd H p (.dK (mergeK [] kvs)))
theorem pairs_of {B H : Hp} (e : Same B H) : ∀ {vs : List V} {l : List (κ × β)}, All2 (Rp.is B) vs l → ∃ (ps : List Addr) (kvs : List (Key × V)), vs = ps.map V.ref ∧ Paired (fun p kv => SqT K H p [kV kv.1, kv.2]) ps kvs ∧ kvAll B kvs l
  | [], [], _ => ⟨[], [], rfl, .nil, trivial⟩
  | v :: vs, a :: l, ⟨⟨p, x, y, h1, h2, h3, h4⟩, t⟩ => by
    obtain ⟨ps, kvs, e1, e2, e3⟩ := pairs_of e t
    have h3' := ky_is h3
    subst h3'
    exact ⟨p :: ps, (Ky.k a.1, y) :: kvs, by rw [h1, e1]; rfl, .cons (SqT.of (e _ _ h2)) e2, ⟨rfl, h4⟩, e3⟩
theorem n_dict {l : List (κ × β)} (h : XE C te (isa l) C1) : XN C (tCB (rDictP K) (tCons te tNil)) (fun p => dicC p (dmk l)) C1 := fun F B0 σ B H Q st q => h F B0 σ B H _ st fun v B1 H1 rv e1 st1 => by
  obtain ⟨p, vs, rfl, hp, hv⟩ := rv
  obtain ⟨ps, kvs, rfl, h2, h3⟩ := pairs_of (K := K) st1.bh hv
  exact ⟨p, ps, kvs, rfl, SqL.of (st1.bh _ _ hp), h2, fun q' hq => q q' B1 _ e1 (st1.newO hq _ rfl fun H' h' => ⟨_, h', kv_merge h3 trivial⟩)⟩
end
/-! ### built-ins -/
section
variable {X : Cx} {C C1 C2 : Ct} {ta tb te : TE} {K : Fg} {k : Nat}
theorem xe_cb2 {r : List V → Hp → VK → Prop} {Ra Rb R : Sl} {C3 : Ct} (h : XE C ta Ra C1) (h' : XE C1 tb Rb C2) (hr : ∀ (F B0 : Hp) (σ : L2.St) (B H : Hp) (v w : V) (Q : VK), STB F B0 C2 B σ H → Ra.P B v → Rb.P B w → (∀ v B' H', R.P B' v → Same B B' → STB F B0 C3 B' σ H' → Q v H') → r [v, w] H Q) : XE C (tCB r (tCons ta (tCons tb tNil))) R C3 :=
  xe_cb (a_cons h (a_cons h' a_nil)) fun F B0 σ B H vs Q st rv q => by
    obtain ⟨v, r2, rfl, h1, w, r3, rfl, h2, h3⟩ := rv
    have h3' : r3 = [] := h3
    subst h3'
    exact hr F B0 σ B H v w Q st h1 h2 q
abbrev rInt1 : List V → Hp → VK → Prop := fun xs H Q => (∃ i, xs = [.int i] ∧ Q (.int i) H) ∨ ∃ k, xs = [.bl k] ∧ Q (.int (if k then 1 else 0)) H
def b2z (b : Bool) : Int := if b then 1 else 0
theorem x_intB {b : Bool} (h : XE C ta (isa b) C1) : XE C (tCB rInt1 (tCons ta tNil)) (isa (b2z b)) C1 := xe_cb1 h fun F B0 σ B H v Q st rv q => .inr ⟨b, by rw [show v = V.bl b from rv], q _ B H rfl (Same.refl B) st⟩
abbrev rMin2 : List V → Hp → VK → Prop := fun xs H Q => ∃ i j, xs = [.int i, .int j] ∧ Q (.int (if j < i then j else i)) H
abbrev rMax2 : List V → Hp → VK → Prop := fun xs H Q => ∃ i j, xs = [.int i, .int j] ∧ Q (.int (if j > i then j else i)) H
theorem x_min2 {x y : Int} (ha : XE C ta (isa x) C1) (hb : XE C1 tb (isa y) C2) : XE C (tCB rMin2 (tCons ta (tCons tb tNil))) (isa (min x y)) C2 := xe_cb2 ha hb fun F B0 σ B H v w Q st rv rw' q =>
  ⟨x, y, by rw [show v = V.int x from rv, show w = V.int y from rw'], q _ B H (congrArg V.int (by show (if y < x then y else x) = min x y; omega)) (Same.refl B) st⟩
theorem x_max2 {x y : Int} (ha : XE C ta (isa x) C1) (hb : XE C1 tb (isa y) C2) : XE C (tCB rMax2 (tCons ta (tCons tb tNil))) (isa (max x y)) C2 := xe_cb2 ha hb fun F B0 σ B H v w Q st rv rw' q =>
  ⟨x, y, by rw [show v = V.int x from rv, show w = V.int y from rw'], q _ B H (congrArg V.int (by show (if y > x then y else x) = max x y; omega)) (Same.refl B) st⟩
abbrev rAbs : List V → Hp → VK → Prop := fun xs H Q => ∃ i, xs = [.int i] ∧ Q (.int (if i < 0 then -i else i)) H
theorem x_abs {x : Int} (ha : XE C ta (isa x) C1) : XE C (tCB rAbs (tCons ta tNil)) (isa ((x.natAbs : Nat) : Int)) C1 := xe_cb1 ha fun F B0 σ B H v Q st rv q =>
  ⟨x, by rw [show v = V.int x from rv], q _ B H (congrArg V.int (by show (if x < 0 then -x else x) = ((x.natAbs : Nat) : Int); omega)) (Same.refl B) st⟩
theorem ints_of {B : Hp} : ∀ {vs : List V} {ns : List Int}, All2 (Rp.is B) vs ns → vs = ns.map V.int
  | [], [], _ => rfl
  | _ :: _, _ :: _, ⟨h, t⟩ => by rw [List.map_cons, ints_of t]; exact congrArg (· :: _) h
theorem bls_of {B : Hp} : ∀ {vs : List V} {ns : List Bool}, All2 (Rp.is B) vs ns → vs = ns.map V.bl
  | [], [], _ => rfl
  | _ :: _, _ :: _, ⟨h, t⟩ => by rw [List.map_cons, bls_of t]; exact congrArg (· :: _) h
theorem strs_of {B : Hp} : ∀ {vs : List V} {ns : List Tx}, All2 (Rp.is B) vs ns → vs = (ns.map S).map V.str
  | [], [], _ => rfl
  | _ :: _, _ :: _, ⟨h, t⟩ => by rw [List.map_cons, List.map_cons, strs_of t]; exact congrArg (· :: _) h
theorem x_sum {ns : List Int} (h : XE C ta (isa ns) C1) : XE C (tCB (rSum K) (tCons ta tNil)) (isa ns.sum) C1 := xe_cb1 h fun F B0 σ B H v Q st rv q => by
  obtain ⟨p, vs, rfl, hp, hv⟩ := rv
  exact ⟨p, ns, rfl, SqL.of (ints_of hv ▸ st.bh _ _ hp), q _ B H rfl (Same.refl B) st⟩
theorem x_all {ns : List Bool} (h : XE C ta (isa ns) C1) : XE C (tCB (rAll K) (tCons ta tNil)) (isa (ns.all id)) C1 := xe_cb1 h fun F B0 σ B H v Q st rv q => by
  obtain ⟨p, vs, rfl, hp, hv⟩ := rv
  exact ⟨p, ns, rfl, SqL.of (bls_of hv ▸ st.bh _ _ hp), q _ B H rfl (Same.refl B) st⟩
theorem x_any {ns : List Bool} (h : XE C ta (isa ns) C1) : XE C (tCB (rAny K) (tCons ta tNil)) (isa (ns.any id)) C1 := xe_cb1 h fun F B0 σ B H v Q st rv q => by
  obtain ⟨p, vs, rfl, hp, hv⟩ := rv
  exact ⟨p, ns, rfl, SqL.of (bls_of hv ▸ st.bh _ _ hp), q _ B H rfl (Same.refl B) st⟩
/-- sep.join(texts), the sep empty -/
abbrev rJoin (K : Fg) : V → List V → Hp → VK → Prop := fun x xs H Q => ∃ a p, ∃ ys : List Str, x = .str a ∧ xs = [.ref p] ∧ (SqL K H p (ys.map V.str) ∨ SqT K H p (ys.map V.str)) ∧
    (ys.map (·.length)).sum + ys.length * a.length ≤ 16777216 ∧ Q (.str (Txt.join a ys)) H
end
/-! ### defs of two kinds -/
section
variable {P : Program} {w : World} {K : Fg} {mg : Str → Option Value} {base : Heap} {x : Str} {params : Arguments} {body : List Stmt} {scope : Scope} {f : Addr} {fd : FuncData} {N ps : List Str} {k : Nat}
theorem allS_len {f : Fs} {n : Nat} (hl : ∀ a, (f.Rs a).length = n) : ∀ vs H Q E, f.sp vs H Q E → vs.length = n := fun vs H Q E ⟨a, _, B, _, h, _⟩ => by rw [h.len, hl a]
/-- a def that raises nothing -/
theorem cal_mk (fs : Fs) {S : Type} (F : FunD K x x params body scope [] [] f fd) (sc : FnScope N ps scope) (hg : mg x = some (.ref f)) (hb : Binds K fd ps []) (hl : ∀ a, (fs.Rs a).length = ps.length)
    (o : fs.A → Ctl S fs.R fs.X) (CS : fs.A → S → Ct) (d : fs.A → S → fs.R)
    (h : ∀ (cdv : Value) (A : Around) (outer : List PySem.Env) (s : Shared) (H : Hp) (E : XK), Room k (A.deeper (PyProof.Rows.envOfC x scope s.heap.objs.size f cdv)) →
      ∃ t, PSs (cxOf CX0 P w K mg base N x scope f cdv A outer s H E).nox body t ∧ ∀ a, fs.pre a → XB ((fs.sg a).tm E) ⟨(fs.Rs a).map some ++ List.replicate (N.length - (fs.Rs a).length) none, fs.I a⟩ t (o a) (CS a))
    (hm : ∀ a, fs.pre a → fs.m a = (o a).bind fun s => .rt (d a s)) (hd : ∀ a s, fs.pre a → (∀ B0 B : Hp, ((fs.sg a).vr (d a s) B0).P B .non) ∧ List.Sublist ((fs.sg a).oc (d a s)) (CS a s).o) :
    Cal P w K mg base CX0 (k + 1) x fs.sp :=
  ⟨f, fd, ps, F.ok sc (allS_len hl) (fun cdv A outer s H vs Q E hr hsp => by
    obtain ⟨t, h1, h2⟩ := h cdv A outer s H E hr
    exact ⟨t, h1.nox, Fs.body (N := N) h2 hm hd hsp⟩), hg, F.kp, hb⟩
/-- a def that may raise -/
theorem cal_mkX (fs : Fs) {S : Type} (F : FunD K x x params body scope [] [] f fd) (sc : FnScope N ps scope) (hg : mg x = some (.ref f)) (hb : Binds K fd ps []) (hl : ∀ a, (fs.Rs a).length = ps.length)
    (o : fs.A → Ctl S fs.R fs.X) (CS : fs.A → S → Ct) (d : fs.A → S → fs.R)
    (h : ∀ (cdv : Value) (A : Around) (outer : List PySem.Env) (s : Shared) (H : Hp) (E : XK), Room k (A.deeper (PyProof.Rows.envOfC x scope s.heap.objs.size f cdv)) →
      ∃ t, PSs (cxOf (L2.CX P w) P w K mg base N x scope f cdv A outer s H E) body t ∧ ∀ a, fs.pre a → XB ((fs.sg a).tm E) ⟨(fs.Rs a).map some ++ List.replicate (N.length - (fs.Rs a).length) none, fs.I a⟩ t (o a) (CS a))
    (hm : ∀ a, fs.pre a → fs.m a = (o a).bind fun s => .rt (d a s)) (hd : ∀ a s, fs.pre a → (∀ B0 B : Hp, ((fs.sg a).vr (d a s) B0).P B .non) ∧ List.Sublist ((fs.sg a).oc (d a s)) (CS a s).o) :
    Cal P w K mg base (L2.CX P w) (k + 1) x fs.sp :=
  ⟨f, fd, ps, F.ok sc (allS_len hl) (fun cdv A outer s H vs Q E hr hsp => by
    obtain ⟨t, h1, h2⟩ := h cdv A outer s H E hr
    exact ⟨t, h1, Fs.body (N := N) h2 hm hd hsp⟩), hg, F.kp, hb⟩
end
theorem out_eq {R : Type} (o : Ctl Empty R Empty) (d : Empty → Ctl Empty R Empty) : Ctl.rt (o.out Empty.elim) = o.bind d := by cases o with
  | nx s => exact s.elim
  | rt r => rfl
  | rs x => exact x.elim
end Fw

namespace Fw
open PySem PySem.Spec L2
open PySem.W (Datum DatumOrd Holds HoldAll SomeDatum)

/-! ### rules with K told apart -/
section
variable {X : Cx} (K : Fg) {a b c e o : Expr} {ta tb tc te : TE} {t : TA} {es : List Expr} {pos p p2 : Pos} {k : Nat}
theorem k_ixL (hK : X.K = K) (ha : PE X a ta) (hb : PE X b tb) (hs : PlainIx b := by exact fun _ _ => rfl) : PE X (.Subscript a b pos) (tOp (rIxL K) ta tb) := hK ▸ pe_ix ix_list ha hb hs
theorem k_ixT (hK : X.K = K) (ha : PE X a ta) (hb : PE X b tb) (hs : PlainIx b := by exact fun _ _ => rfl) : PE X (.Subscript a b pos) (tOp (rIxT K) ta tb) := hK ▸ pe_ix ix_tup ha hb hs
theorem k_ixS (ha : PE X a ta) (hb : PE X b tb) (hs : PlainIx b := by exact fun _ _ => rfl) : PE X (.Subscript a b pos) (tOp rIxS ta tb) := pe_ix ix_str ha hb hs
theorem k_slL (hK : X.K = K) {lo hi : Option Expr} {tl th : TO} (he : PE X e te) (hl : PO X lo tl) (hu : PO X hi th) : PE X (.Subscript e (.Slice lo hi none p2) pos) (tSl (rSlL K) te tl th) := hK ▸ pe_slice sl_list he hl hu
theorem k_slS {lo hi : Option Expr} {tl th : TO} (he : PE X e te) (hl : PO X lo tl) (hu : PO X hi th) : PE X (.Subscript e (.Slice lo hi none p2) pos) (tSl rSlS te tl th) := pe_slice sl_str he hl hu
/-- a built-in's call -/
theorem k_cb {id : String} {x : Str} {r : List V → Hp → VK → Prop} (hc : CallR X (.builtin id) r) (hm : X.mg x = none) (hv : bootBuiltins x = some (.builtin id)) (ha : PA X (e :: es) t) (hg : Gl X x := by rfl) (hn : x ≠ "__name__" := by decide) (hdb : (x == ("__debug__" : Str)) = false := by decide)
    (he : starEach (e :: es) X.env = (false, eval e X.env) :: starEach es X.env := by rfl) (hpl : (backTo pos (starEach es X.env)).any (·.1) = false := by rfl) : PE X (.Call (.Name x p) (e :: es) [] pos) (tCB r t) := pe_callB hc hg hm hv ha hn hdb he hpl
theorem k_ct {id : String} {x : Str} {r : List V → Hp → VK → Prop} (hc : CallR X (.type id) r) (hm : X.mg x = none) (hv : bootBuiltins x = some (.type id)) (ha : PA X (e :: es) t) (hg : Gl X x := by rfl) (hn : x ≠ "__name__" := by decide) (hdb : (x == ("__debug__" : Str)) = false := by decide)
    (he : starEach (e :: es) X.env = (false, eval e X.env) :: starEach es X.env := by rfl) (hpl : (backTo pos (starEach es X.env)).any (·.1) = false := by rfl) : PE X (.Call (.Name x p) (e :: es) [] pos) (tCB r t) := pe_callTy hc hg hm hv ha hn hdb he hpl
theorem c_lenQ (hK : X.K = K) : CallR X (.builtin "len") (rLenQ K) := hK ▸ call_len_seq
theorem c_lenZ : CallR X (.builtin "len") rLenZ := call_len_str
theorem c_lenY : CallR X (.builtin "len") rLenY := call_lenD
theorem c_list (hK : X.K = K) : CallR X (.type "list") (rListQ K) := hK ▸ call_list_of
theorem c_dict (hK : X.K = K) (hc : X.calm = true) : CallR X (.type "dict") (rDictP K) := hK ▸ call_dictP hc
theorem c_sum (hK : X.K = K) (hc : X.calm = true) : CallR X (.builtin "sum") (rSum K) := hK ▸ cr_sum hc
theorem c_all (hK : X.K = K) (hc : X.calm = true) : CallR X (.builtin "all") (rAll K) := hK ▸ cr_all hc
theorem c_any (hK : X.K = K) (hc : X.calm = true) : CallR X (.builtin "any") (rAny K) := hK ▸ cr_any hc
theorem c_int1 : CallR X (.type "int") rInt1 := call_int1
theorem c_min2 (hc : X.calm = true) : CallR X (.builtin "min") rMin2 := call_min2 hc
theorem c_max2 (hc : X.calm = true) : CallR X (.builtin "max") rMax2 := call_max2 hc
theorem c_abs : CallR X (.builtin "abs") rAbs := call_abs
theorem k_bm (hK : X.K = K) {name : Str} {apos cpos : Pos} {T id : String} {r : V → List V → Hp → VK → Prop} (pa : PlainAttrs T) (slot : Slot T name id) (hty : typeOf (.builtin id) = pure (.type "method_descriptor")) (hm : MtR X id r) (ho : PE X o te) (ha : PA X (e :: es) t)
    (hbase : attributeBase o name X.env (eval o X.env) = eval o X.env := by rfl)
    (hfew : ((backTo cpos (starEach (e :: es) X.env)).all (fun x => !x.1) && (backToKw cpos (keywordEach [] X.env)).all (fun x => x.1.isSome)
      && decide ((e :: es).length + ([] : List Keyword).length + (if ([] : List Keyword).isEmpty then 0 else 1) < 30)) = true := by rfl)
    (hline : (apos.endLine == cpos.line) = true := by rfl) (hs : starEach (e :: es) X.env = (false, eval e X.env) :: starEach es X.env := by rfl) (hplain : (backTo cpos (starEach es X.env)).any (·.1) = false := by rfl) :
    PE X (.Call (.Attribute o name apos) (e :: es) [] cpos) (tBM K T r te t) := hK ▸ pe_bm pa slot hty hm ho ha hbase hfew hline hs hplain
theorem k_ilist (hK : X.K = K) {tg l : Expr} (h : PE X l te) : PI X tg l (iList K te) := hK ▸ pi_list h
theorem k_irev (hK : X.K = K) {tg : Expr} (hm : X.mg "reversed" = none) (ha : PA X [e] t) (hg : Gl X "reversed" := by rfl) (hs : starEach [e] X.env = [(false, eval e X.env)] := by rfl) : PI X tg (.Call (.Name "reversed" p) [e] [] pos) (iRev K t) := hK ▸ pi_reversed hg hm ha hs
theorem k_ienum (hK : X.K = K) {elts : List Expr} {kk : Nat} {tpos : Pos} (hm : X.mg "enumerate" = none) (ha : PA X [e] t) (hg : Gl X "enumerate" := by rfl) (hs : starEach [e] X.env = [(false, eval e X.env)] := by rfl) : PI X (.Tuple elts kk tpos) (.Call (.Name "enumerate" p) [e] [] pos) (iEnum K t) := hK ▸ pi_enum hg hm ha hs
theorem k_izip (hK : X.K = K) {e2 : Expr} {elts : List Expr} {kk : Nat} {tpos : Pos} (hm : X.mg "zip" = none) (ha : PA X [e, e2] t) (hg : Gl X "zip" := by rfl) (hs : starEach [e, e2] X.env = (false, eval e X.env) :: starEach [e2] X.env := by rfl) (hpl : (backTo pos (starEach [e2] X.env)).any (·.1) = false := by rfl) : PI X (.Tuple elts kk tpos) (.Call (.Name "zip" p) [e, e2] [] pos) (iZip K t) := hK ▸ pi_zip hg hm ha hs hpl
theorem k_gtup (hK : X.K = K) {es : List Expr} {kk : Nat} {t : TGs} {n : Nat} (hc : X.calm = true) (h : PGs X es t) (hn : (assignEach es X.env).length = n := by rfl) (hst : (assignEach es X.env).findIdx? (·.1) = none := by rfl) : PG X (.Tuple es kk pos) (gTup K n t) := hK ▸ pg_tup hc h hn hst
end

/-! ### isinstance of typed things -/
class Tn (α : Type) [Rp α] where
  n : String
  ty : ∀ {K : Fg} {B H : Hp} {v : V} {a : α}, Same B H → Rp.is B v a → TyX K H v (.type n)
instance : Tn Int := ⟨"int", fun _ h => by rw [show _ = V.int _ from h]; exact .base (.int _)⟩
instance : Tn Bool := ⟨"bool", fun _ h => by rw [show _ = V.bl _ from h]; exact .base (.bl _)⟩
instance : Tn (List Nat) := ⟨"str", fun _ h => by rw [show _ = V.str _ from h]; exact .base (.str _)⟩
instance {α : Type} [Rp α] : Tn (List α) := ⟨"list", fun e ⟨p, vs, h, hp, _⟩ => by rw [h]; exact .base (.lst (e _ _ hp))⟩
instance {α β : Type} [Rp α] [Rp β] : Tn (α × β) := ⟨"tuple", fun e ⟨p, x, y, h, hp, _⟩ => by rw [h]; exact .base (.tup (e _ _ hp))⟩
section
variable {X : Cx} {C C1 : Ct} {ta : TE} {K : Fg}
theorem c_isi (hK : X.K = K) : CallR X (.builtin "isinstance") (rIsi K) := hK ▸ call_isi
theorem x_isi {α : Type} [Rp α] [Tn α] {a : α} {T : String} (b : Bool) (h : XE C ta (isa a) C1) (hb : kitB (Tn.n α) T = some b) : XE C (tCB (rIsi K) (tCons ta (tCons (tC (.ty T)) tNil))) (isa b) C1 :=
  xe_cb2 (Rb := ⟨fun _ v => v = .ty T, fun _ h => h⟩) h (x_c fun _ => rfl) fun F B0 σ B H v w Q st rv rw' q =>
    ⟨v, .ty T, _, _, b, by rw [show w = V.ty T from rw'], .ty T, Tn.ty st.bh rv, kit_ty hb, q _ B H rfl (Same.refl B) st⟩
end
/-! ### facts of the top -/
structure Md (fa : List He.Fa) (fn : List He.DefD) (K : Fg) (mg : Str → Option Value) (base : Heap) : Prop where
  says : He.SaysD fa fn K
  kin : K.In base
  ns : base.Ns mainGlobals mg
section
variable {fa : List He.Fa} {fn : List He.DefD} {K : Fg} {mg : Str → Option Value} {base : Heap}
theorem Md.fr (M : Md fa fn K mg base) (i : Nat) {x : Str} (h : fa[i]? = some (.free x) := by rfl) : mg x = none := He.free_ok M.kin M.ns (M.says.fact i h)
theorem Md.gl (M : Md fa fn K mg base) (i : Nat) {x : Str} (h : fa[i]? = some (.glo x) := by rfl) : mg x = some (.ref (He.ga K x)) := He.glo_ok M.kin M.ns (M.says.fact i h)
end
end Fw

namespace Fw
open PySem PySem.Spec L2
open PySem.W (Datum DatumOrd Holds HoldAll SomeDatum)

theorem bt_len : bootBuiltins "len" = some (.builtin "len") := by decide +kernel
theorem bt_sum : bootBuiltins "sum" = some (.builtin "sum") := by decide +kernel
theorem bt_all : bootBuiltins "all" = some (.builtin "all") := by decide +kernel
theorem bt_any : bootBuiltins "any" = some (.builtin "any") := by decide +kernel
theorem bt_min : bootBuiltins "min" = some (.builtin "min") := by decide +kernel
theorem bt_max : bootBuiltins "max" = some (.builtin "max") := by decide +kernel
theorem bt_abs : bootBuiltins "abs" = some (.builtin "abs") := by decide +kernel
theorem bt_isinstance : bootBuiltins "isinstance" = some (.builtin "isinstance") := by decide +kernel
theorem bt_sorted : bootBuiltins "sorted" = some (.builtin "sorted") := by decide +kernel
theorem bt_repr : bootBuiltins "repr" = some (.builtin "repr") := by decide +kernel
theorem bt_int : bootBuiltins "int" = some (.type "int") := by decide +kernel
theorem bt_str : bootBuiltins "str" = some (.type "str") := by decide +kernel
theorem bt_bool : bootBuiltins "bool" = some (.type "bool") := by decide +kernel
theorem bt_list : bootBuiltins "list" = some (.type "list") := by decide +kernel
theorem bt_tuple : bootBuiltins "tuple" = some (.type "tuple") := by decide +kernel
theorem bt_dict : bootBuiltins "dict" = some (.type "dict") := by decide +kernel
theorem bt_set : bootBuiltins "set" = some (.type "set") := by decide +kernel
theorem bt_range : bootBuiltins "range" = some (.type "range") := by decide +kernel
theorem bt_enumerate : bootBuiltins "enumerate" = some (.type "enumerate") := by decide +kernel
theorem bt_reversed : bootBuiltins "reversed" = some (.type "reversed") := by decide +kernel
theorem bt_zip : bootBuiltins "zip" = some (.type "zip") := by decide +kernel
def tx (s : String) : Tx := (PySem.Str.ofString s).cps.toList
theorem hlen_cut {β : Type} {w xs : List β} {lo hi : Option Int} (h : w = cut xs lo hi) : w.length ≤ xs.length := h ▸ cut_len xs lo hi
def letC {α β : Type} (x : α) (f : α → β) : β := f x
section
variable {a b x : Int} {n : Nat}
theorem irange_at (h : (irange a b)[n]? = some x) : a ≤ x ∧ x < b ∧ x = a + (n : Int) ∧ (n : Int) < b - a := by
  obtain ⟨hl, e⟩ := List.getElem?_eq_some_iff.mp h
  rw [irange_len] at hl
  have := irange_get hl
  rw [h] at this
  have : x = a + (n : Int) := Option.some.inj this
  omega
theorem mem_at {α : Type} {xs : List α} {x : α} {n : Nat} (h : xs[n]? = some x) : x ∈ xs ∧ n < xs.length := ⟨List.mem_of_getElem? h, (List.getElem?_eq_some_iff.mp h).1⟩
theorem enum_at {α : Type} {xs : List α} {x : Int × α} {n : Nat} (h : (enum xs)[n]? = some x) : x.1 = (n : Int) ∧ n < xs.length ∧ xs[n]? = some x.2 := by
  unfold enum at h
  rw [List.getElem?_map, List.getElem?_zipIdx] at h
  cases e : xs[n]? with
  | none => rw [e] at h; cases h
  | some y =>
    rw [e] at h
    have h : ((n : Int), y) = x := by simpa using h
    subst h
    exact ⟨rfl, (List.getElem?_eq_some_iff.mp e).1, rfl⟩
end
section
variable {S S' R X : Type} {T : Tm R X} {C C1 C2 : Ct} {t u w : TS} {te : TE} {tt : TT} {o o1 o2 : Ctl S R X} {CS : S → Ct} {k : S → Ctl S' R X} {b : Bool} {Rv : Sl}
theorem b_asgV {α : Type} [Rp α] {x : α} {i : Nat} {f : α → Ctl S R X} (h : XE C te (isa x) C1) (k : ∀ y, y = x → XB T ⟨C1.g.set i (some (isa y)), C1.o⟩ u (f y) CS) : XB T C (tSeq (tAsg te (gName i)) u) (letC x f) CS := b_asg h (k x rfl)
theorem b_ifE {o1 o2 : Ctl Empty R X} {CE CE2 : Empty → Ct} (h : XT C tt b C1) (h1 : b = true → XB T C1 t o1 CE) (h2 : b = false → XB T C1 w o2 CE2) : XB T C (tSeq (tIfS tt t w) u) (if b = true then (o1.lift : Ctl S R X) else o2.lift) CS := fun F B0 D σ B H st hn hr hx =>
  h F B0 σ B H _ st fun B1 H1 e1 st1 => by
    cases b with
    | true => exact h1 rfl F B0 { D with nx := u D } σ B1 H1 st1 (fun s => s.elim) (fun r e => hr r (by rw [e]; rfl)) (fun x e => hx x (by rw [e]; rfl))
    | false => exact h2 rfl F B0 { D with nx := u D } σ B1 H1 st1 (fun s => s.elim) (fun r e => hr r (by rw [e]; rfl)) (fun x e => hx x (by rw [e]; rfl))
theorem b_raiseS {S R : Type} {T : Tm R Str} {C : Ct} {CS : S → Ct} {u : TS} {W : WX} {Cv : Value} {x : Str} (hw : ∀ (σ : L2.St) H, T.wx x σ H → W Cv none σ H) (hc : List.Sublist (T.ec x) C.o) : XB T C (tSeq (tRs Cv W) u) (.rs x) CS := fun F B0 D σ B H st hn hr hx =>
  hw σ H (hx x rfl σ B H (st.end_ hc))
/-- a comprehension without a test -/
theorem n_lcU {C C1 : Ct} {te : TE} {wi : TI} {g : TG} {vs is : List Nat} {α β : Type} [Rp α] [Rp β] {xs : List α} {up : α → List (Option Sl) → List (Option Sl)} (f : α → β) (hi : XI C wi xs C1) (hg : XG g up is) (hv : ∀ i ∈ is, i ∈ vs)
    (he : ∀ (n : Nat) x, xs[n]? = some x → XE ⟨up x (wipeG C1.g vs), C1.o⟩ te (isa (f x)) ⟨up x (wipeG C1.g vs), C1.o⟩) (hz : xs.length ≤ 16777216) :
    XN C (tLc wi g tYes te vs) (fun q => lstC q (xs.map f)) C1 := by
  have h := n_lc (te := te) (tt := tYes) (C := C) (vs := vs) (fun _ => true) f hi hg hv (fun _ _ _ => t_yes) (fun n x hx _ => he n x hx) hz
  rw [List.filter_eq_self.mpr (fun _ _ => rfl)] at h
  exact h
end
/-! ### facts of the top: constants, exceptions -/
section
variable {fa : List He.Fa} {fn : List He.DefD} {K : Fg} {mg : Str → Option Value} {base : Heap}
theorem Md.gi (M : Md fa fn K mg base) (i : Nat) {x : Str} {v : Int} (h : fa[i]? = some (.int x v) := by rfl) : ∃ t, mg x = some (.int v t) := He.int_ok M.kin M.ns (M.says.fact i h)
theorem Md.gs (M : Md fa fn K mg base) (i : Nat) {x v : Str} (h : fa[i]? = some (.str x v) := by rfl) : ∃ t, mg x = some (.str v t) := He.str_ok M.kin M.ns (M.says.fact i h)
theorem Md.exc (M : Md fa fn K mg base) (i : Nat) {x : Str} (h : fa[i]? = some (.exc x) := by rfl) : (He.Fa.exc x).ok K = true := M.says.fact i h
variable {X : Cx}
theorem k_int {x : Str} {v : Int} {pos : Pos} (h : ∃ t, X.mg x = some (.int v t)) (hg : Gl X x := by rfl) (hd : (x == ("__debug__" : Str)) = false := by decide) : PE X (.Name x pos) (tC (.int v)) := by
  obtain ⟨t, h⟩ := h
  exact pe_glob hg h ⟨t, rfl⟩ hd
theorem k_str {x v : Str} {pos : Pos} (h : ∃ t, X.mg x = some (.str v t)) (hg : Gl X x := by rfl) (hd : (x == ("__debug__" : Str)) = false := by decide) : PE X (.Name x pos) (tC (.str v)) := by
  obtain ⟨t, h⟩ := h
  exact pe_glob hg h ⟨t, rfl⟩ hd
theorem ps_raiseT (K : Fg) (hK : X.K = K) {W : WX} {x m : Str} {j : Nat} {p p2 pos pos2 : Pos} (hc : X.calm = true) (tk : Takes X W) (g : X.mg x = some (.ref (He.ga K x))) (e : (He.Fa.exc x).ok K = true) (hg : Gl X x := by rfl) (hdb : (x == ("__debug__" : Str)) = false := by decide) :
    PS X (.Raise (some (.Call (.Name x p) [.Constant (.str m) j p2] [] pos)) none pos2) (tRs (.ref (He.ga K x)) W) := by
  subst hK
  obtain ⟨e1, e2, e3, e4⟩ := He.exc_ok e
  exact ps_raise hc tk (pmk_own PySem.F.excBase_ValueError e1 g e2 (raises_own e3 e4) hg hdb)
end
/-! ### min(texts, default=None), join -/
def minO {α : Type} [DecidableEq α] [Datum α] [DatumOrd α] : List α → Option α
  | [] => none
  | y :: ys => some (PySem.W.minOf y ys)
theorem joinL_nil : ∀ l : List (List Nat), TL.joinL [] l = l.flatten
  | [] => rfl
  | [p] => by simp [TL.joinL]
  | p :: q :: r => by
    show p ++ ([] ++ TL.joinL [] (q :: r)) = _
    rw [joinL_nil (q :: r)]; simp
theorem join_S (ls : List Tx) : Txt.join (S []) (ls.map S) = S ls.flatten := by
  have h := TL.tl_join (S []) (ls.map S)
  have e : (ls.map S).map TL.tl = ls := by
    rw [List.map_map]
    have : ∀ l : List Tx, l.map (TL.tl ∘ S) = l := fun l => by
      induction l with
      | nil => rfl
      | cons a l ih => rw [List.map_cons, ih]; rfl
    exact this ls
  rw [e] at h
  have h2 : TL.tl (S []) = [] := rfl
  rw [h2, joinL_nil] at h
  exact TL.ext_tl ((congrArg TL.tl (TL.join_eq (S []) (ls.map S))).trans h)
section
variable {X : Cx} {C C1 C2 : Ct} {ta tb te : TE} {K : Fg} {k : Nat} {e o : Expr}
def rJn (K : Fg) : V → List V → Hp → VK → Prop := fun x xs H Q => ∃ a p, ∃ ys : List Str, x = .str a ∧ xs = [.ref p] ∧ (SqL K H p (ys.map V.str) ∨ SqT K H p (ys.map V.str)) ∧
    (ys.map (·.length)).sum + ys.length * a.length ≤ 16777216 ∧ Q (.str (Txt.join a ys)) H
theorem k_join (K : Fg) (hK : X.K = K) {apos pos : Pos} (ho : PE X o ta) (he : PE X e te) (hs : starEach [e] X.env = [(false, eval e X.env)] := by rfl) (hbase : attributeBase o "join" X.env (eval o X.env) = eval o X.env := by rfl) (hline : (apos.endLine == pos.line) = true := by rfl) :
    PE X (.Call (.Attribute o "join" apos) [e] [] pos) (tM1 (rJn K) ta te) := hK ▸ pe_join ho he hs hbase hline
theorem x_join {sep : Tx} {ls : List Tx} (hs : XE C ta (isa sep) C1) (h : XE C1 tb (isa ls) C2) (he : sep = []) (hz : ls.flatten.length ≤ 16777216) : XE C (tM1 (rJn K) ta tb) (isa ls.flatten) C2 := fun F B0 σ B H Q st q => hs F B0 σ B H _ st fun v B1 H1 rv e1 st1 => ⟨⟨S sep, rv⟩, h F B0 σ B1 H1 _ st1 fun w B2 H2 rw' e2 st2 => by
  obtain ⟨p, vs, rfl, hp, hv⟩ := rw'
  subst he
  refine ⟨S [], p, ls.map S, rv, rfl, .inl (SqL.of (strs_of hv ▸ st2.bh _ _ hp)), ?_, q _ B2 H2 ?_ (e1.trans e2) st2⟩
  · have h1 : ((ls.map S).map (·.length)).sum = ls.flatten.length := by
      rw [List.length_flatten, List.map_map]
      exact congrArg List.sum (List.map_congr_left fun x _ => S_len x)
    rw [h1, S_len]; simpa using hz
  · show V.str (Txt.join (S []) (ls.map S)) = V.str (S ls.flatten)
    rw [join_S]⟩
end
end Fw

namespace Fw
open PySem PySem.Spec L2
open PySem.W (Datum DatumOrd Holds HoldAll SomeDatum)

/-! ### owned things as a set -/
theorem own_iff {F B H : Hp} : ∀ {cs : List Cell}, Own F B H cs ↔ (∀ c ∈ cs, (∀ a ∈ c.as, F a = none ∧ B a = none) ∧ c.P B H) ∧ (cs.map (·.as)).Pairwise (fun x y => ∀ a ∈ x, a ∉ y)
  | [] => by simp [Own]
  | c :: cs => by
    have ih := own_iff (F := F) (B := B) (H := H) (cs := cs)
    constructor
    · rintro ⟨h1, h2, h3, h4⟩
      obtain ⟨i1, i2⟩ := ih.mp h4
      refine ⟨fun d hd => ?_, ?_⟩
      · rcases List.mem_cons.mp hd with e | e
        · rw [e]; exact ⟨h1, h2⟩
        · exact i1 d e
      · rw [List.map_cons, List.pairwise_cons]
        refine ⟨fun y hy => ?_, i2⟩
        obtain ⟨d, hd, rfl⟩ := List.mem_map.mp hy
        exact h3 d hd
    · rintro ⟨h1, h2⟩
      rw [List.map_cons, List.pairwise_cons] at h2
      exact ⟨(h1 c (by simp)).1, (h1 c (by simp)).2, fun d hd => h2.1 _ (List.mem_map_of_mem hd), ih.mpr ⟨fun d hd => h1 d (by simp [hd]), h2.2⟩⟩
theorem STB.calledN {F B0 : Hp} {C : Ct} {B : Hp} {σ : L2.St} {H : Hp} (st : STB F B0 C B σ H) {B1 H1 : Hp} {A I O Z : List Cell} (hC : C.o = A ++ (I ++ Z)) (has : O.map (·.as) = I.map (·.as)) (p : Post B H I B1 H1 O) :
    STB F B0 ⟨C.g, A ++ (O ++ Z)⟩ B1 σ H1 := by
  have own := st.own
  rw [hC] at own
  obtain ⟨o1, o2⟩ := own_iff.mp own
  obtain ⟨p1, p2⟩ := own_iff.mp p.o
  have asIO : ∀ a, (∃ c ∈ O, a ∈ c.as) ↔ ∃ c ∈ I, a ∈ c.as := fun a => by
    have key : ∀ {L : List Cell}, (∃ c ∈ L, a ∈ c.as) ↔ ∃ x ∈ L.map (·.as), a ∈ x := by
      intro L
      constructor
      · rintro ⟨c, hc, ha⟩; exact ⟨_, List.mem_map_of_mem hc, ha⟩
      · rintro ⟨x, hx, ha⟩
        obtain ⟨c, hc, rfl⟩ := List.mem_map.mp hx
        exact ⟨c, hc, ha⟩
    rw [key, key, has]
  have hk : ∀ a o, H a = some o → (∀ c ∈ I, a ∉ c.as) → H1 a = some o := p.k
  have pw : ((A ++ (O ++ Z)).map (·.as)).Pairwise (fun x y => ∀ a ∈ x, a ∉ y) := by
    have e : (A ++ (O ++ Z)).map (·.as) = (A ++ (I ++ Z)).map (·.as) := by simp only [List.map_append, has]
    rw [e]; exact o2
  have notI : ∀ c, (c ∈ A ∨ c ∈ Z) → ∀ a ∈ c.as, ∀ d ∈ I, a ∉ d.as := by
    have e : (A ++ (I ++ Z)).map (·.as) = A.map (·.as) ++ (I.map (·.as) ++ Z.map (·.as)) := by simp only [List.map_append]
    rw [e, List.pairwise_append, List.pairwise_append] at o2
    obtain ⟨_, ⟨_, _, q2⟩, q1⟩ := o2
    rintro c (hc | hc) a ha d hd had
    · exact q1 _ (List.mem_map_of_mem hc) _ (List.mem_append_left _ (List.mem_map_of_mem hd)) a ha had
    · exact q2 _ (List.mem_map_of_mem hd) _ (List.mem_map_of_mem hc) a had ha
  have inI : ∀ a, (∃ c ∈ I, a ∈ c.as) → F a = none ∧ B a = none := fun a ⟨c, hc, ha⟩ => (o1 c (by simp [hc])).1 a ha
  have other : ∀ c, (c ∈ A ∨ c ∈ Z) → (∀ a ∈ c.as, F a = none ∧ B1 a = none) ∧ c.P B1 H1 := fun c hc => by
    have hm : c ∈ A ++ (I ++ Z) := by
      rcases hc with h | h
      · simp [h]
      · simp [h]
    obtain ⟨c1, c2⟩ := o1 c hm
    have hth := c.th c2
    refine ⟨fun a ha => ⟨(c1 a ha).1, ?_⟩, c.mono p.b (c.loc (fun a ha => ?_) c2)⟩
    · cases e : B1 a with
      | none => rfl
      | some o =>
        rcases p.n a (by rw [e]; simp) with z | z | ⟨d, hd, had⟩
        · exact absurd (c1 a ha).2 z
        · exact absurd z (hth a ha)
        · exact absurd had (notI c hc a ha d hd)
    · cases e : H a with
      | none => exact absurd e (hth a ha)
      | some o => exact hk a o e (notI c hc a ha)
  refine ⟨fun a o h => ?_, p.h, st.b0.trans p.b, fun a h => ?_, st.env.mono p.b, own_iff.mpr ⟨fun c hc => ?_, pw⟩⟩
  · exact hk a o (st.fr a o h) fun c hc ha => by
      have := (inI a ⟨c, hc, ha⟩).1
      rw [this] at h; cases h
  · rcases p.n a h with z | z | z
    · exact st.nw a z
    · exact .inr (st.fr.free z)
    · exact .inr (inI a z).1
  · rcases List.mem_append.mp hc with h | h
    · exact other c (.inl h)
    · rcases List.mem_append.mp h with h | h
      · refine ⟨fun a ha => ⟨(inI a ((asIO a).mp ⟨c, h, ha⟩)).1, ((p1 c h).1 a ha).2⟩, (p1 c h).2⟩
      · exact other c (.inr h)
theorem ownN {F B H : Hp} {A I Z : List Cell} (h : Own F B H (A ++ (I ++ Z))) : Own (fun _ => none) B H I := by
  obtain ⟨o1, o2⟩ := own_iff.mp h
  have e : (A ++ (I ++ Z)).map (·.as) = A.map (·.as) ++ (I.map (·.as) ++ Z.map (·.as)) := by simp only [List.map_append]
  rw [e, List.pairwise_append, List.pairwise_append] at o2
  exact own_iff.mpr ⟨fun c hc => ⟨fun a ha => ⟨rfl, ((o1 c (by simp [hc])).1 a ha).2⟩, (o1 c (by simp [hc])).2⟩, o2.2.1.1⟩
section
variable {C C1 C2 : Ct} {ta tb te : TE} {t : TA} {R : Sl} {E : XK} {fs : Fs} {K : Fg}
/-- a call that changes owned things that stand one behind the other from the j-th on, n of them -/
theorem x_callN (j n : Nat) (a : fs.A) (hp : fs.pre a) {r : fs.R} (ha : XA C t (fs.Rs a) C1) (hm : fs.m a = .rt r := by rfl) (hj : C1.o = C1.o.take j ++ (fs.I a ++ C1.o.drop (j + n)) := by rfl) (has : ((fs.sg a).oc r).map (·.as) = (fs.I a).map (·.as) := by rfl)
    (hV : ∀ (B0 B : Hp) v, ((fs.sg a).vr r B0).P B v → R.P B v := by exact fun _ _ _ h => h) :
    XE C (tCall fs.sp [] E t) R ⟨C1.g, C1.o.take j ++ ((fs.sg a).oc r ++ C1.o.drop (j + n))⟩ := fun F B0 σ B H Q st q => ha F B0 σ B H _ st fun vs B1 H1 rv e1 st1 => by
  rw [List.append_nil]
  refine ⟨a, hp, B1, st1.bh, rv, ownN (hj ▸ st1.own), fun r' e v B2 H2 p q2 => ?_, fun x e => ?_⟩
  · rw [hm] at e; cases e
    exact q v B2 H2 (hV B1 B2 v q2) (e1.trans p.b) (st1.calledN hj has p)
  · rw [hm] at e; cases e

/-! ### instances -/
/-- an instance of the class at D, at p, its own dict at dx -/
def insC (D p dx : Addr) (fs : List (Str × V)) : Cell where
  as := [p, dx]
  P := fun B H => H p = some (.ins D dx fs) ∧ H dx = some (.own p)
  mono := fun e h => h
  loc := fun e ⟨h1, h2⟩ => ⟨(e p (by simp)).trans h1, (e dx (by simp)).trans h2⟩
  th := fun ⟨h1, h2⟩ a ha => by
    simp at ha
    rcases ha with rfl | rfl
    · rw [h1]; simp
    · rw [h2]; simp
end
section
variable {X : Cx} {C C1 C2 : Ct} {ta tb te : TE} {t : TA} {R : Sl} {E : XK} {K : Fg} {e o value : Expr} {f : Str} {pos pos' apos p : Pos} {D pp dx : Addr} {fl : List (Str × V)}
theorem ke_fld (K : Fg) (hK : X.K = K) (he : PE X e ta) (hb : attributeBase e f X.env (eval e X.env) = eval e X.env := by rfl) : PE X (.Attribute e f pos) (tFld K ta f) := hK ▸ pe_fld he hb
theorem ks_fld (K : Fg) (hK : X.K = K) {tv : TE} (ha : PE X o ta) (hv : PE X value tv) (hs : swapsWith value (some (.Attribute o f pos')) pos.line X.env = pure false := by rfl) : PS X (.Assign [.Attribute o f pos'] value pos) (sFld K ta tv f) := hK ▸ ps_fld ha hv hs
/-- o.f, o an owned instance -/
theorem x_fld (j : Nat) (v : V) (cl : Cls K D) (na : NoAttr K D f) (h : XE C ta (isr pp) C1) (hl : fl.lookup f = some v) (hR : ∀ B, R.P B v) (hj : C1.o[j]? = some (insC D pp dx fl) := by rfl) : XE C (tFld K ta f) R C1 := fun F B0 σ B H Q st q => h F B0 σ B H _ st fun w B1 H1 rw' e1 st1 => by
  have rw2 : w = .ref pp := rw'
  subst rw2
  obtain ⟨h1, h2⟩ := (st1.own.at hj).2
  exact ⟨pp, D, dx, fl, v, rfl, h1, cl, na, hl, q v B1 H1 (hR B1) e1 st1⟩
/-- o.f = e -/
theorem b_fld {S R' X' : Type} {T : Tm R' X'} {u : TS} {oo : Ctl S R' X'} {CS : S → Ct} {tv : TE} (j : Nat) (cl : Cls K D) (na : NoAttr K D f) (hv : XE C tv R C1) (h : XE C1 ta (isr pp) C1) (v : V) (hR : ∀ B w, R.P B w → w = v) (hz : fl.length < 1000)
    (k : XB T ⟨C1.g, C1.o.set j (insC D pp dx (putF f v fl))⟩ u oo CS) (hj : C1.o[j]? = some (insC D pp dx fl) := by rfl) : XB T C (tSeq (sFld K ta tv f) u) oo CS := fun F B0 Dn σ B H st hn hr hx =>
  hv F B0 σ B H _ st fun w B1 H1 rw' e1 st1 => h F B0 σ B1 H1 _ st1 fun w2 B2 H2 rw2 e2 st2 => by
    have rw3 : w2 = .ref pp := rw2
    subst rw3
    have ew := hR B1 w rw'
    subst ew
    obtain ⟨h1, h2⟩ := (st2.own.at hj).2
    refine ⟨pp, D, dx, fl, rfl, h1, cl, na, hz, ?_⟩
    have hne : dx ≠ pp := fun z => by rw [z, h1] at h2; cases h2
    exact k F B0 Dn σ B2 _ (st2.upd (c' := insC D pp dx (putF f w fl)) hj rfl (fun a ha => upd_ne fun z => ha (by simp [insC, z])) ⟨upd_same, by rw [upd_ne hne]; exact h2⟩) hn hr hx
/-- methods -/
def CalM (P : Program) (w : World) (K : Fg) (mg : Str → Option Value) (base : Heap) (CX : CXT) (k : Nat) (D : Addr) (m : Str) (sp : Sp) : Prop :=
  ∃ (f : Addr) (fd : FuncData) (ps : List Str), FnOk P w K mg base CX k f fd ps sp ∧ Meth K D m f ∧ Binds K fd ps []
theorem pe_methC {CX : CXT} {k j : Nat} {m : Str} {sp : Sp} {es : List Expr} {pl : Sem Bool} (c : CalM X.prog X.w X.K X.mg X.base CX j D m sp) (cl : Cls X.K D) (hr : Room k X.A) (hj : j ≤ k) (hx : Passes CX X E) (he : PE X o ta) (ha : PA X (e :: es) t)
    (hst : starEach (e :: es) X.env = (false, eval e X.env) :: starEach es X.env := by rfl) (hpl : (backTo pos (starEach es X.env)).any (·.1) = false := by rfl)
    (ht : eval (.Call (.Attribute o m apos) (e :: es) [] pos) X.env = (do
      let ov ← eval o X.env
      standAt apos.atName
      let (f, first) ← holding [ov] (getMethod ov m pl)
      callWith pos f first (backTo pos (starEach (e :: es) X.env)) (backToKw pos (keywordEach [] X.env))) := by rfl) :
    PE X (.Call (.Attribute o m apos) (e :: es) [] pos) (tMeth D m sp [] E ta t) := by
  obtain ⟨f, fd, ps, F, h1, h2⟩ := c
  exact pe_meth he cl h1 F (hr.mono hj) h2 .nil hx ha hst hpl ht
theorem pe_methC0 {CX : CXT} {k j : Nat} {m : Str} {sp : Sp} {pl : Sem Bool} (c : CalM X.prog X.w X.K X.mg X.base CX j D m sp) (cl : Cls X.K D) (hr : Room k X.A) (hj : j ≤ k) (hx : Passes CX X E) (he : PE X o ta)
    (ht : eval (.Call (.Attribute o m apos) [] [] pos) X.env = (do
      let ov ← eval o X.env
      standAt apos.atName
      let (f, first) ← holding [ov] (getMethod ov m pl)
      callWith pos f first (backTo pos (starEach [] X.env)) (backToKw pos (keywordEach [] X.env))) := by rfl) :
    PE X (.Call (.Attribute o m apos) [] [] pos) (tMeth D m sp [] E ta tNil) := by
  obtain ⟨f, fd, ps, F, h1, h2⟩ := c
  exact pe_meth0 he cl h1 F (hr.mono hj) h2 .nil hx ht
/-- o.m(..) -/
theorem x_methN {fs : Fs} {m : Str} (j n ji : Nat) (a : fs.A) (hp : fs.pre a) {r : fs.R} (ho : XE C ta (isr pp) C1) {Rs : List Sl} (ha : XA C1 t Rs C2) (hRs : fs.Rs a = isr pp :: Rs := by rfl) (hl : fl.lookup m = none) (hm : fs.m a = .rt r := by rfl)
    (hji : C1.o[ji]? = some (insC D pp dx fl) := by rfl) (hj : C2.o = C2.o.take j ++ (fs.I a ++ C2.o.drop (j + n)) := by rfl) (has : ((fs.sg a).oc r).map (·.as) = (fs.I a).map (·.as) := by rfl)
    (hV : ∀ (B0 B : Hp) v, ((fs.sg a).vr r B0).P B v → R.P B v := by exact fun _ _ _ h => h) :
    XE C (tMeth D m fs.sp [] E ta t) R ⟨C2.g, C2.o.take j ++ ((fs.sg a).oc r ++ C2.o.drop (j + n))⟩ := fun F B0 σ B H Q st q => ho F B0 σ B H _ st fun v B1 H1 rv e1 st1 => by
  have rv' : v = .ref pp := rv
  subst rv'
  obtain ⟨h1, h2⟩ := (st1.own.at hji).2
  refine ⟨pp, dx, fl, rfl, h1, hl, ha F B0 σ B1 H1 _ st1 fun vs B2 H2 rvs e2 st2 => ?_⟩
  rw [List.append_nil]
  refine ⟨a, hp, B2, st2.bh, by rw [hRs]; exact ⟨_, _, rfl, rfl, rvs⟩, ownN (hj ▸ st2.own), fun r' e v B3 H3 p q2 => ?_, fun x e => ?_⟩
  · rw [hm] at e; cases e
    exact q v B3 H3 (hV B2 B3 v q2) ((e1.trans e2).trans p.b) (st2.calledN hj has p)
  · rw [hm] at e; cases e
/-- D(), a new instance -/
theorem STB.newO2 {F B0 : Hp} {C : Ct} {B : Hp} {σ : L2.St} {H : Hp} (s : STB F B0 C B σ H) {x d : Addr} (h1 : H x = none) (h2 : H d = none) (hne : d ≠ x) (D : Addr) : STB F B0 ⟨C.g, insC D x d [] :: C.o⟩ B σ (L2.upd (L2.upd H d (.own x)) x (.ins D d [])) := by
  have e : Same H (L2.upd (L2.upd H d (.own x)) x (.ins D d [])) := fun b o h => by
    rw [upd_ne (ne_of_none h h1), upd_ne (ne_of_none h h2)]; exact h
  refine ⟨s.fr.trans e, s.bh.trans e, s.b0, s.nw, s.env, ⟨fun a ha => ?_, ⟨upd_same, by rw [upd_ne hne, upd_same]⟩, fun c hc a ha => ?_, s.own.imp (Same.refl B) fun c hc a ha => ?_⟩⟩
  · simp [insC] at ha
    rcases ha with rfl | rfl
    · exact ⟨s.fr.free h1, s.bh.free h1⟩
    · exact ⟨s.fr.free h2, s.bh.free h2⟩
  · simp [insC] at ha
    rcases ha with rfl | rfl
    · exact fun z => s.own.there hc z h1
    · exact fun z => s.own.there hc z h2
  · have n1 : a ≠ x := fun z => s.own.there hc ha (z ▸ h1)
    have n2 : a ≠ d := fun z => s.own.there hc ha (z ▸ h2)
    rw [upd_ne n1, upd_ne n2]
    exact ⟨rfl, (s.own.mem hc).1 a ha⟩
end
/-! ### lending an owned list to a call whose answer needs no heap -/
class HF (α : Type) [Rp α] : Prop where
  hf : ∀ {B B' : Hp} {v : V} {a : α}, Rp.is B v a → Rp.is B' v a
instance : HF Int := ⟨fun h => h⟩
instance : HF Bool := ⟨fun h => h⟩
instance : HF Unit := ⟨fun h => h⟩
instance : HF (List Nat) := ⟨fun h => h⟩
instance {α : Type} [Rp α] [HF α] : HF (Option α) := ⟨fun {B B' v a} h => by
  cases a with
  | none => exact h
  | some a => exact ⟨h.1, HF.hf h.2⟩⟩
/-- Rs' asks an owned list's address where Rs asks the list -/
inductive Lend (p : Addr) {α : Type} [Rp α] (xs : List α) : List Sl → List Sl → Prop where
  | nil : Lend p xs [] []
  | same {s : Sl} {a b : List Sl} : Lend p xs a b → Lend p xs (s :: a) (s :: b)
  | lend {a b : List Sl} : Lend p xs a b → Lend p xs (isr p :: a) (isa xs :: b)
theorem Lend.all {p : Addr} {α : Type} [Rp α] {xs : List α} {B B' : Hp} (e : Same B B') (h : Rp.is B' (.ref p) xs) : ∀ {a b : List Sl} {vs : List V}, Lend p xs a b → AllS a B vs → AllS b B' vs
  | _, _, _, .nil, q => q
  | s :: _, _, _, .same l, ⟨v, r, h1, h2, h3⟩ => ⟨v, r, h1, s.m e h2, Lend.all e h l h3⟩
  | _, _, _, .lend l, ⟨v, r, h1, h2, h3⟩ => ⟨v, r, h1, by rw [show v = V.ref p from h2]; exact h, Lend.all e h l h3⟩
theorem STB.grow {F B0 : Hp} {C : Ct} {B : Hp} {σ : L2.St} {H H' : Hp} (s : STB F B0 C B σ H) (k : ∀ a o, H a = some o → H' a = some o) : STB F B0 C B σ H' :=
  ⟨fun a o h => k a o (s.fr a o h), fun a o h => k a o (s.bh a o h), s.b0, s.nw, s.env, s.own.imp (Same.refl B) fun c hc a ha => ⟨by
    cases e : H a with
    | none => exact absurd e (s.own.there hc ha)
    | some o => rw [k a o e], (s.own.mem hc).1 a ha⟩⟩
section
variable {C C1 C2 : Ct} {ta tb te : TE} {t : TA} {R : Sl} {E : XK} {fs : Fs} {K : Fg}
theorem x_callL {α β : Type} [Rp α] [Rp β] [HF β] {xs : List α} {p : Addr} {y : β} (j : Nat) (a : fs.A) (hp : fs.pre a) {r : fs.R} {Rs : List Sl} (ha : XA C t Rs C1) (hL : Lend p xs Rs (fs.Rs a)) (hm : fs.m a = .rt r := by rfl) (hI : fs.I a = [] := by rfl) (ho : (fs.sg a).oc r = [] := by rfl)
    (hj : C1.o[j]? = some (lstC p xs) := by rfl) (hV : ∀ (B0 B : Hp) v, ((fs.sg a).vr r B0).P B v → (isa y).P B v := by exact fun _ _ _ h => h) :
    XE C (tCall fs.sp [] E t) (isa y) C1 := fun F B0 σ B H Q st q => ha F B0 σ B H _ st fun vs B1 H1 rv e1 st1 => by
  rw [List.append_nil]
  obtain ⟨ws, hpw, hw⟩ := (st1.own.at hj).2
  have hB : B1 p = none := ((st1.own.at hj).1 p (by simp [lstC])).2
  have eB : Same B1 (upd B1 p (.lst ws)) := same_new hB
  have rep : Rp.is (upd B1 p (.lst ws)) (V.ref p) xs := ⟨p, ws, rfl, upd_same, hw.imp fun _ _ z => Rp.mono eB z⟩
  refine ⟨a, hp, upd B1 p (.lst ws), fun b o h => ?_, Lend.all eB rep hL rv, by rw [hI]; trivial, fun r' e v B2 H2 pst q2 => ?_, fun x e => ?_⟩
  · by_cases hb : b = p
    · subst hb; rw [upd_same] at h; rw [hpw]; exact h
    · rw [upd_ne hb] at h; exact st1.bh b o h
  · rw [hm] at e; cases e
    rw [hI, ho] at pst
    exact q v B1 H2 (HF.hf (hV _ B2 v q2)) e1 (st1.grow fun b o h => pst.k b o h fun c hc => by cases hc)
  · rw [hm] at e; cases e
/-- == of an owned list -/
theorem x_eqO {α : Type} [DecidableEq α] [Datum α] [Rd α] {xs ys : List α} {p : Addr} (j : Nat) (ha : XE C ta (isr p) C1) (hb : XE C1 tb (isa ys) C2) (hd : Datum.depth (List α) ≤ 60 := by decide) (hj : C2.o[j]? = some (lstC p xs) := by rfl) : XE C (tOp rEqT ta tb) (isa (decide (xs = ys))) C2 :=
  xe_op ha hb fun F B0 σ B H v w Q st rx ry q => by
    have rx' : v = .ref p := rx
    subst rx'
    obtain ⟨vs, hp, hv⟩ := (st.own.at hj).2
    exact ⟨List α, _, _, inferInstance, xs, ys, hd, ⟨p, vs, rfl, hp, hv.imp fun _ _ z => Rp.mono st.bh z⟩, Rp.mono st.bh ry, q _ B H rfl (Same.refl B) st⟩
theorem x_neO {α : Type} [DecidableEq α] [Datum α] [Rd α] {xs ys : List α} {p : Addr} (j : Nat) (ha : XE C ta (isr p) C1) (hb : XE C1 tb (isa ys) C2) (hd : Datum.depth (List α) ≤ 60 := by decide) (hj : C2.o[j]? = some (lstC p xs) := by rfl) : XE C (tOp rNeT ta tb) (isa (!decide (xs = ys))) C2 :=
  xe_op ha hb fun F B0 σ B H v w Q st rx ry q => by
    have rx' : v = .ref p := rx
    subst rx'
    obtain ⟨vs, hp, hv⟩ := (st.own.at hj).2
    exact ⟨List α, _, _, inferInstance, xs, ys, hd, ⟨p, vs, rfl, hp, hv.imp fun _ _ z => Rp.mono st.bh z⟩, Rp.mono st.bh ry, q _ B H rfl (Same.refl B) st⟩
/-- slices whose bounds change owned things -/
theorem x_slSE {t : Tx} {tl th : TO} {lo hi : Option Int} {C3 : Ct} (ha : XE C ta (isa t) C1) (hl : XO C1 tl lo C2) (hh : XO C2 th hi C3) (hz : t.length ≤ 16777216) : XE C (tSl rSlS ta tl th) (isa (cut t lo hi)) C3 := fun F B0 σ B H Q st q =>
  ha F B0 σ B H _ st fun v B1 H1 rv e1 st1 => hl F B0 σ B1 H1 _ st1 fun B2 H2 e2 st2 => hh F B0 σ B2 H2 _ st2 fun B3 H3 e3 st3 => by
    refine ⟨S t, rv, by rw [S_len, sizeLine_eq]; exact hz, q _ B3 H3 ?_ ((e1.trans e2).trans e3) st3⟩
    show V.str (cutS (S t) lo hi) = V.str (S (cut t lo hi))
    unfold cutS cut S Str.length
    simp
end
/-! ### p.pop(), find, pow -/
/-- one letter stands at a place -/
def findT (t u : Tx) : Int := match (List.range (t.length + 1 - u.length)).find? fun i => decide ((t.drop i).take u.length = u) with
  | some i => (i : Int)
  | none => -1
theorem at_S {t u : Tx} (hu : u ≠ []) (i : Nat) : StrLaws.At (S t) (S u) (S t).length i ↔ (t.drop i).take u.length = u := by
  have h1 : (S t).cps.toList = t := rfl
  have h2 : (S u).cps.toList = u := rfl
  unfold StrLaws.At
  rw [StrLaws.subAt_eq, h1, h2, S_len, S_len, beq_iff_eq]
  constructor
  · exact fun h => h.2
  · intro h
    refine ⟨?_, h⟩
    have e := congrArg List.length h
    rw [List.length_take, List.length_drop] at e
    have : 0 < u.length := List.length_pos_iff.mpr hu
    omega
theorem find_S {t u : Tx} (hu : u ≠ []) : Txt.find (S t) (S u) = findT t u := by
  have hpos : 0 < u.length := List.length_pos_iff.mpr hu
  have hin : ∀ i, (t.drop i).take u.length = u → i < t.length + 1 - u.length := fun i h => by
    have e := congrArg List.length h
    rw [List.length_take, List.length_drop] at e
    omega
  unfold Txt.find findT
  rcases StrLaws.occ_head (S t) (S u) 1 (Nat.le_refl _) with ⟨h, hn⟩ | ⟨i, r, h, ha, hk⟩
  · rw [h]
    have : (List.range (t.length + 1 - u.length)).find? (fun i => decide ((t.drop i).take u.length = u)) = none := by
      rw [List.find?_eq_none]
      intro i _ hi
      exact hn i ((at_S hu i).mpr (of_decide_eq_true hi))
    rw [this]
  · rw [h]
    have ha' := (at_S hu i).mp ha
    have : (List.range (t.length + 1 - u.length)).find? (fun i => decide ((t.drop i).take u.length = u)) = some i := by
      rw [List.find?_range_eq_some]
      refine ⟨decide_eq_true ha', ?_, ?_⟩
      · exact List.mem_range.mpr (hin i ha')
      · intro k hk2
        have := hk k hk2
        rw [at_S hu] at this
        simpa using this
    rw [this]
section
variable {X : Cx} {C C1 C2 : Ct} {ta tb te : TE} {K : Fg} {e o : Expr}
abbrev rFind : V → List V → Hp → VK → Prop := fun x xs H Q => ∃ a b, x = .str a ∧ xs = [.str b] ∧ Q (.int (Txt.find a b)) H
theorem k_find {apos pos : Pos} (ho : PE X o ta) (he : PE X e te) (hs : starEach [e] X.env = [(false, eval e X.env)] := by rfl) (hbase : attributeBase o "find" X.env (eval o X.env) = eval o X.env := by rfl) (hline : (apos.endLine == pos.line) = true := by rfl) :
    PE X (.Call (.Attribute o "find" apos) [e] [] pos) (tM1 rFind ta te) := pe_m1 PySem.F.slot_str_find PySem.F.type_str_find mt_find ho he hs hbase hline
theorem x_find {t u : Tx} (ha : XE C ta (isa t) C1) (hb : XE C1 tb (isa u) C2) (hu : u ≠ []) : XE C (tM1 rFind ta tb) (isa (findT t u)) C2 := fun F B0 σ B H Q st q => ha F B0 σ B H _ st fun v B1 H1 rv e1 st1 => ⟨⟨S t, rv⟩, hb F B0 σ B1 H1 _ st1 fun w B2 H2 rw' e2 st2 =>
  ⟨S t, S u, rv, congrArg (fun z => [z]) rw', q _ B2 H2 (show V.int _ = V.int _ by rw [find_S hu]) (e1.trans e2) st2⟩⟩
def CPowW (i j : Int) : Prop := 0 ≤ j ∧ (Builtin.Int.intBits i : Int) * j ≤ 2 ^ 27
theorem op_powW : OpR X (binaryOp .Pow) (rI CPowW fun i j => .int (i ^ j.toNat)) := opI fun _ _ _ _ _ _ _ hc q => PyProof.Rows.pow_int hc.1 hc.2 q
theorem x_powW {x y : Int} (ha : XE C ta (isa x) C1) (hb : XE C1 tb (isa y) C2) (hc : CPowW x y) : XE C (tOp (rI CPowW fun i j => .int (i ^ j.toNat)) ta tb) (isa (x ^ y.toNat)) C2 := xe_iic ha hb hc fun _ => rfl
end
end Fw

namespace Fw
open PySem PySem.Spec L2
open PySem.W (Datum DatumOrd Holds HoldAll SomeDatum)

/-! ### the script -/
theorem Same.sqL {K : Fg} {H H' : Hp} {a : Addr} {xs : List V} (e : Same H H') (h : SqL K H a xs) : SqL K H' a xs := by
  rcases h with (h | ⟨o, h⟩) | h
  · exact .inl (.inl (e _ _ h))
  · exact .inl (.inr ⟨o, e _ _ h⟩)
  · exact .inr h
def isq (K : Fg) (ns : List Int) : Sl := ⟨fun B v => ∃ a, v = .ref a ∧ SqL K B a (ns.map V.int), fun e ⟨a, h1, h2⟩ => ⟨a, h1, Same.sqL e h2⟩⟩
section
variable {C C1 C2 : Ct} {ta tb te : TE} {t : TA} {R : Sl} {E : XK} {K : Fg}
theorem x_lenR {ns : List Int} (h : XE C ta (isq K ns) C1) : XE C (tCB (rLenQ K) (tCons ta tNil)) (isa (ns.length : Int)) C1 := xe_cb1 h fun F B0 σ B H v Q st rv q => by
  obtain ⟨p, rfl, hp⟩ := rv
  exact ⟨p, _, rfl, .inl (Same.sqL st.bh hp), q _ B H (congrArg (fun n : Nat => V.int n) (List.length_map ..)) (Same.refl B) st⟩
theorem x_ixR {ns : List Int} {i : Int} (ha : XE C ta (isq K ns) C1) (hb : XE C1 tb (isa i) C2) (hi : Ib ns.length i) : XE C (tOp (rIxL K) ta tb) (isa (ixI ns i)) C2 :=
  xe_op0 ha hb fun B H v w Q e rx ry q => by
    obtain ⟨p, rfl, hp⟩ := rx
    have hv : All2 (Rp.is B) (ns.map V.int) ns := by
      have := All2.map (r := Rp.is B) (f := V.int) (g := fun z : Int => z) (l := ns) (fun c _ => rfl)
      rwa [List.map_id'] at this
    obtain ⟨u, hu, ru⟩ := atI_all2 hv hi.1 hi.2
    exact ⟨p, _, i, u, rfl, ry, Same.sqL e hp, hu, q _ ru⟩
end
/-! ### a def that answers with a new list -/
def nuS {α : Type} [Rp α] (r : List α) (B0 : Hp) : Sl := ⟨fun B v => ∃ p vs, v = .ref p ∧ B p = some (.lst vs) ∧ All2 (Rp.is B) vs r ∧ B0 p = none, fun e ⟨p, vs, h1, h2, h3, h4⟩ => ⟨p, vs, h1, e _ _ h2, h3.imp fun _ _ q => Rp.mono e q, h4⟩⟩
theorem nuS_m {α : Type} [Rp α] {r : List α} {B0 B1 B : Hp} {v : V} (e : Same B0 B1) (h : (nuS r B1).P B v) : (nuS r B0).P B v := by
  obtain ⟨p, vs, h1, h2, h3, h4⟩ := h
  exact ⟨p, vs, h1, h2, h3, e.free h4⟩
def nu (α : Type) [Rp α] : Sg (List α) Empty := ⟨fun r B0 => nuS r B0, fun _ => [], fun x => x.elim, fun x => x.elim, nuS_m⟩
section
variable {S R X : Type} {T : Tm R X} {C C1 C2 : Ct} {u : TS} {te : TE} {t : TA} {CS : S → Ct} {E : XK} {fs : Fs} {K : Fg}
/-- return of a new list -/
theorem b_retN {α : Type} [Rp α] {xs : List α} {r : R} (h : XN C te (fun p => lstC p xs) C1) (hV : ∀ B0 B v, (nuS xs B0).P B v → (T.vr r B0).P B v := by exact fun _ _ _ h => h) (hO : List.Sublist (T.oc r) C1.o := by exact List.nil_sublist _) :
    XB T C (tSeq (tRet te) u) (.rt r) CS := fun F B0 D σ B H st hn hr hx => h F B0 σ B H _ st fun p B' H' e st' => by
  obtain ⟨vs, hp, hv⟩ := (st'.own.at (j := 0) rfl).2
  have hB0 : B0 p = none := st'.b0.free ((st'.own.at (j := 0) rfl).1 p (by simp [lstC])).2
  obtain ⟨st2, e2⟩ := st'.frz (j := 0) rfl rfl hp
  exact hr r rfl _ _ _ (st2.end_ hO) (hV B0 _ _ ⟨p, vs, rfl, upd_same, hv.imp fun _ _ z => Rp.mono e2 z, hB0⟩)
/-- return of an owned list -/
theorem b_retO {α : Type} [Rp α] {xs : List α} {r : R} {p : Addr} (j : Nat) (h : XE C te (isr p) C1) (hj : C1.o[j]? = some (lstC p xs) := by rfl) (hV : ∀ B0 B v, (nuS xs B0).P B v → (T.vr r B0).P B v := by exact fun _ _ _ h => h)
    (hO : List.Sublist (T.oc r) (C1.o.eraseIdx j) := by exact List.nil_sublist _) :
    XB T C (tSeq (tRet te) u) (.rt r) CS := fun F B0 D σ B H st hn hr hx => h F B0 σ B H _ st fun v B' H' rv e st' => by
  have rv' : v = .ref p := rv
  subst rv'
  obtain ⟨vs, hp, hv⟩ := (st'.own.at hj).2
  have hB0 : B0 p = none := st'.b0.free ((st'.own.at hj).1 p (by simp [lstC])).2
  obtain ⟨st2, e2⟩ := st'.frz hj rfl hp
  exact hr r rfl _ _ _ (st2.end_ hO) (hV B0 _ _ ⟨p, vs, rfl, upd_same, hv.imp fun _ _ z => Rp.mono e2 z, hB0⟩)
/-- a heap without one address -/
def wo (B : Hp) (p : Addr) : Hp := fun a => if a = p then none else B a
theorem wo_same {B : Hp} {p : Addr} : Same (wo B p) B := fun a o h => by
  unfold wo at h
  split at h
  · cases h
  · exact h
theorem wo_none {B : Hp} {p a : Addr} (h : B a = none) : wo B p a = none := by
  unfold wo
  split
  · rfl
  · exact h
/-- the call of a def that answers with a new list of things that need no heap -/
theorem n_callN {α : Type} [Rp α] [HF α] {r : List α} (a : fs.A) (hp : fs.pre a) {rr : fs.R} (ha : XA C t (fs.Rs a) C1) (hm : fs.m a = .rt rr := by rfl) (hI : fs.I a = [] := by rfl) (ho : (fs.sg a).oc rr = [] := by rfl)
    (hV : ∀ (B0 B : Hp) v, ((fs.sg a).vr rr B0).P B v → (nuS r B0).P B v := by exact fun _ _ _ h => h) : XN C (tCall fs.sp [] E t) (fun q => lstC q r) C1 := fun F B0 σ B H Q st q => ha F B0 σ B H _ st fun vs B1 H1 rv e1 st1 => by
  rw [List.append_nil]
  refine ⟨a, hp, B1, st1.bh, rv, by rw [hI]; trivial, fun r' e v B2 H2 p q2 => ?_, fun x e => ?_⟩
  · rw [hm] at e; cases e
    rw [hI, ho] at p
    obtain ⟨z, ws, rfl, h2, h3, h4⟩ := hV B1 B2 v q2
    have hk : ∀ a o, H1 a = some o → H2 a = some o := fun a o h => p.k a o h fun c hc => by cases hc
    -- z is new
    have hz : H1 z = none := by
      rcases p.n z (by rw [h2]; simp) with y | y | ⟨c, hc, _⟩
      · exact absurd h4 y
      · exact y
      · cases hc
    have e2 : Same B1 (wo B2 z) := fun a o h => by
      unfold wo
      rw [if_neg fun y => by rw [y, h4] at h; cases h]
      exact p.b a o h
    have st2 := st1.called p
    refine q z (wo B2 z) H2 (e1.trans e2) ⟨st2.fr, wo_same.trans st2.bh, st1.b0.trans e2, fun a ha => st2.nw a fun y => ha (wo_none y), st1.env.mono e2, ?_⟩
    refine ⟨fun a ha => ?_, ⟨ws, p.h _ _ h2, h3.imp fun _ _ y => HF.hf y⟩, fun d hd a ha => ?_, st1.own.imp e2 fun c hc a ha => ?_⟩
    · have ha : a = z := by simpa [lstC] using ha
      subst ha
      exact ⟨st1.fr.free hz, by simp [wo]⟩
    · have ha : a = z := by simpa [lstC] using ha
      subst ha
      exact fun y => st1.own.there hd y hz
    · have h0 := (st1.own.mem hc).1 a ha
      have h1 := st1.own.there hc ha
      refine ⟨?_, h0.1, ?_⟩
      · cases e : H1 a with
        | none => exact absurd e h1
        | some o => exact hk a o e
      · have := ((st2.own.mem hc).1 a ha).2
        unfold wo
        split
        · rfl
        · exact this
  · rw [hm] at e; cases e
end
/-! ### a def that may raise, known not to -/
section
variable {P : Program} {w : World} {K : Fg} {mg : Str → Option Value} {base : Heap}
theorem fn_calm {k : Nat} {f : Addr} {fd : FuncData} {ps : List Str} {sp sp' : Sp} (F : FnOk P w K mg base (L2.CX P w) k f fd ps sp) (h : ∀ vs H Q E, sp' vs H Q E → sp vs H Q fun _ _ _ => False) : FnOk P w K mg base CX0 k f fd ps sp' :=
  ⟨fun vs H Q E q => F.len vs H Q _ (h _ _ _ _ q), fun A outer s H args us vs Q E hr he hb hv hs => codeAny_mono (F.run A outer s H args us vs Q _ hr he hb hv (h _ _ _ _ hs)) fun r s' c => by
    match r, c with
    | .ok (.ret u), c => exact c
    | .error e, c =>
      obtain ⟨_, _, _, _, _, _, _, _, _, _, _, _, z⟩ := c
      exact z.elim⟩
theorem Cal.imp {CX : CXT} {k : Nat} {x : Str} {sp sp' : Sp} (c : Cal P w K mg base CX k x sp) (h : ∀ vs H Q E, sp' vs H Q E → sp vs H Q E) : Cal P w K mg base CX k x sp' := by
  obtain ⟨f, fd, ps, F, r⟩ := c
  exact ⟨f, fd, ps, F.imp h, r⟩
theorem Cal.calm {k : Nat} {x : Str} {sp sp' : Sp} (c : Cal P w K mg base (L2.CX P w) k x sp) (h : ∀ vs H Q E, sp' vs H Q E → sp vs H Q fun _ _ _ => False) : Cal P w K mg base CX0 k x sp' := by
  obtain ⟨f, fd, ps, F, r⟩ := c
  exact ⟨f, fd, ps, fn_calm F h, r⟩
theorem CalM.imp {CX : CXT} {k : Nat} {D : Addr} {m : Str} {sp sp' : Sp} (c : CalM P w K mg base CX k D m sp) (h : ∀ vs H Q E, sp' vs H Q E → sp vs H Q E) : CalM P w K mg base CX k D m sp' := by
  obtain ⟨f, fd, ps, F, r⟩ := c
  exact ⟨f, fd, ps, F.imp h, r⟩
theorem CalM.calm {k : Nat} {D : Addr} {m : Str} {sp sp' : Sp} (c : CalM P w K mg base (L2.CX P w) k D m sp) (h : ∀ vs H Q E, sp' vs H Q E → sp vs H Q fun _ _ _ => False) : CalM P w K mg base CX0 k D m sp' := by
  obtain ⟨f, fd, ps, F, r⟩ := c
  exact ⟨f, fd, ps, fn_calm F h, r⟩
end
/-! ### a keeper: an instance with a text and a list -/
structure Kp where
  p : Addr
  dx : Addr
  q : Addr
abbrev kfl (k : Kp) (s : Tx × List Int) : List (Str × V) := [("letters", .str (S s.1)), ("held", .ref k.q)]
def kp2 (D : Addr) (k : Kp) (s : Tx × List Int) : List Cell := [insC D k.p k.dx (kfl k s), lstC k.q s.2]
def kpC (D : Addr) (k : Kp) (s : Tx × List Int) : Cell where
  as := [k.p, k.dx, k.q]
  P := fun B H => (H k.p = some (.ins D k.dx (kfl k s)) ∧ H k.dx = some (.own k.p)) ∧ (∃ vs, H k.q = some (.lst vs) ∧ All2 (Rp.is B) vs s.2) ∧ k.q ≠ k.p ∧ k.q ≠ k.dx
  mono := fun e ⟨h, ⟨vs, h1, h2⟩, h3⟩ => ⟨h, ⟨vs, h1, h2.imp fun _ _ q => Rp.mono e q⟩, h3⟩
  loc := fun e ⟨⟨h1, h2⟩, ⟨vs, h3, h4⟩, h5⟩ => ⟨⟨(e _ (by simp)).trans h1, (e _ (by simp)).trans h2⟩, ⟨vs, (e _ (by simp)).trans h3, h4⟩, h5⟩
  th := fun ⟨⟨h1, h2⟩, ⟨vs, h3, h4⟩, h5⟩ a ha => by
    simp at ha
    rcases ha with rfl | rfl | rfl
    · rw [h1]; simp
    · rw [h2]; simp
    · rw [h3]; simp
theorem own_kp {F B H : Hp} {D : Addr} {k : Kp} {s : Tx × List Int} {cs : List Cell} : Own F B H (kpC D k s :: cs) ↔ Own F B H (kp2 D k s ++ cs) := by
  constructor
  · rintro ⟨h1, ⟨h2, h3, h4, h5⟩, h6, h7⟩
    refine ⟨fun a ha => h1 a (by simp [insC] at ha; simp [kpC]; rcases ha with h | h <;> simp [h]), h2, fun d hd a ha => ?_, fun a ha => h1 a (by simp [lstC] at ha; simp [kpC, ha]), h3, fun d hd a ha => h6 d hd a (by simp [lstC] at ha; simp [kpC, ha]), h7⟩
    rcases List.mem_cons.mp hd with rfl | hd
    · simp [insC] at ha
      simp [lstC]
      rcases ha with rfl | rfl
      · exact fun z => h4 z.symm
      · exact fun z => h5 z.symm
    · exact h6 d hd a (by simp [insC] at ha; simp [kpC]; rcases ha with h | h <;> simp [h])
  · rintro ⟨h1, h2, h3, h4, h5, h6, h7⟩
    have n := h3 (lstC k.q s.2) (by simp)
    have n1 := n k.p (by simp [insC])
    have n2 := n k.dx (by simp [insC])
    simp [lstC] at n1 n2
    refine ⟨fun a ha => ?_, ⟨h2, h5, fun z => n1 z.symm, fun z => n2 z.symm⟩, fun d hd a ha => ?_, h7⟩
    · simp [kpC] at ha
      rcases ha with rfl | rfl | rfl
      · exact h1 _ (by simp [insC])
      · exact h1 _ (by simp [insC])
      · exact h4 _ (by simp [lstC])
    · simp [kpC] at ha
      rcases ha with rfl | rfl | rfl
      · exact h3 d (by simp [hd]) _ (by simp [insC])
      · exact h3 d (by simp [hd]) _ (by simp [insC])
      · exact h6 d hd _ (by simp [lstC])
theorem kp_as {D : Addr} {k : Kp} {s : Tx × List Int} {a : Addr} : (∀ c ∈ [kpC D k s], a ∉ c.as) ↔ ∀ c ∈ kp2 D k s, a ∉ c.as := by
  simp [kpC, kp2, insC, lstC, and_assoc]
theorem post_kp {B H B1 H1 : Hp} {D : Addr} {k : Kp} {s s' : Tx × List Int} (p : Post B H (kp2 D k s) B1 H1 (kp2 D k s')) : Post B H [kpC D k s] B1 H1 [kpC D k s'] :=
  ⟨p.b, p.h, fun a o h hn => p.k a o h (kp_as.mp hn), fun a h => by
    rcases p.n a h with z | z | z
    · exact .inl z
    · exact .inr (.inl z)
    · refine .inr (.inr ?_)
      apply Classical.byContradiction
      intro w
      obtain ⟨c, hc, ha⟩ := z
      exact kp_as.mp (fun c hc ha => w ⟨c, hc, ha⟩) c hc ha, own_kp.mpr (by rw [List.append_nil]; exact p.o)⟩
/-- a promise over the parts told of the whole -/
theorem Fs.pub {f2 fP : Fs} (D : Addr) (φ : fP.A → f2.A) (k : fP.A → Kp) (s s' : fP.A → Tx × List Int) (r2 : fP.A → f2.R) (r : fP.A → fP.R)
    (h : ∀ a, fP.pre a → f2.pre (φ a) ∧ f2.m (φ a) = .rt (r2 a) ∧ fP.m a = .rt (r a)) (hRs : ∀ a, f2.Rs (φ a) = fP.Rs a) (hI2 : ∀ a, f2.I (φ a) = kp2 D (k a) (s a)) (hIP : ∀ a, fP.I a = [kpC D (k a) (s a)])
    (ho2 : ∀ a, (f2.sg (φ a)).oc (r2 a) = kp2 D (k a) (s' a)) (hoP : ∀ a, (fP.sg a).oc (r a) = [kpC D (k a) (s' a)])
    (hv : ∀ a B0 B v, ((f2.sg (φ a)).vr (r2 a) B0).P B v → ((fP.sg a).vr (r a) B0).P B v) {E' : XK} : ∀ vs H Q E, fP.sp vs H Q E → f2.sp vs H Q E' := by
  rintro vs H Q E ⟨a, hp, B, hB, hvs, ho, hr, hx⟩
  obtain ⟨h1, h2, h3⟩ := h a hp
  refine ⟨φ a, h1, B, hB, by rw [hRs]; exact hvs, ?_, fun r' e v B1 H1 p q => ?_, fun x e => ?_⟩
  · rw [hI2]; rw [hIP] at ho
    have := own_kp.mp ho
    rwa [List.append_nil] at this
  · rw [h2] at e; cases e
    refine hr (r a) h3 v B1 H1 ?_ (hv a _ _ _ q)
    rw [hI2, ho2] at p
    rw [hIP, hoP]
    exact post_kp p
  · rw [h2] at e; cases e
/-- a promise over a list told of another reading of it -/
theorem Fs.via {f2 fP : Fs} (φ : fP.A → f2.A) (r2 : fP.A → f2.R) (r : fP.A → fP.R)
    (h : ∀ a, fP.pre a → f2.pre (φ a) ∧ f2.m (φ a) = .rt (r2 a) ∧ fP.m a = .rt (r a)) (hRs : ∀ a, f2.Rs (φ a) = fP.Rs a) (hI : ∀ a, f2.I (φ a) = fP.I a) (ho : ∀ a, fP.pre a → (f2.sg (φ a)).oc (r2 a) = (fP.sg a).oc (r a))
    (hv : ∀ a B0 B v, fP.pre a → ((f2.sg (φ a)).vr (r2 a) B0).P B v → ((fP.sg a).vr (r a) B0).P B v) {E' : XK} : ∀ vs H Q E, fP.sp vs H Q E → f2.sp vs H Q E' := by
  rintro vs H Q E ⟨a, hp, B, hB, hvs, hw, hr, hx⟩
  obtain ⟨h1, h2, h3⟩ := h a hp
  refine ⟨φ a, h1, B, hB, by rw [hRs]; exact hvs, by rw [hI]; exact hw, fun r' e v B1 H1 p q => ?_, fun x e => ?_⟩
  · rw [h2] at e; cases e
    refine hr (r a) h3 v B1 H1 ?_ (hv a _ _ _ hp q)
    rw [hI, ho a hp] at p
    exact p
  · rw [h2] at e; cases e
section
variable {C C1 C2 : Ct} {ta tb te : TE} {t : TA} {R : Sl} {E : XK} {fs : Fs} {K : Fg} {D : Addr}
/-- o.m(..) of a keeper -/
theorem x_methK {m : Str} {k : Kp} {s s' : Tx × List Int} (j : Nat) (a : fs.A) (hp : fs.pre a) {r : fs.R} (ho : XE C ta (isr k.p) C1) {Rs : List Sl} (ha : XA C1 t Rs C2) (hRs : fs.Rs a = isr k.p :: Rs := by rfl) (hl : (kfl k s).lookup m = none := by rfl) (hm : fs.m a = .rt r := by rfl)
    (hI : fs.I a = [kpC D k s] := by rfl) (hoc : (fs.sg a).oc r = [kpC D k s'] := by rfl) (hji : C1.o[j]? = some (kpC D k s) := by rfl) (hj : C2.o[j]? = some (kpC D k s) := by rfl)
    (hV : ∀ (B0 B : Hp) v, ((fs.sg a).vr r B0).P B v → R.P B v := by exact fun _ _ _ h => h) :
    XE C (tMeth D m fs.sp [] E ta t) R ⟨C2.g, C2.o.set j (kpC D k s')⟩ := fun F B0 σ B H Q st q => ho F B0 σ B H _ st fun v B1 H1 rv e1 st1 => by
  have rv' : v = .ref k.p := rv
  subst rv'
  obtain ⟨⟨h1, h2⟩, _⟩ := (st1.own.at hji).2
  refine ⟨k.p, k.dx, kfl k s, rfl, h1, hl, ha F B0 σ B1 H1 _ st1 fun vs B2 H2 rvs e2 st2 => ?_⟩
  rw [List.append_nil]
  refine ⟨a, hp, B2, st2.bh, by rw [hRs]; exact ⟨_, _, rfl, rfl, rvs⟩, by rw [hI]; exact own0 st2.own hj, fun r' e v B3 H3 p q2 => ?_, fun x e => ?_⟩
  · rw [hm] at e; cases e
    rw [hI, hoc] at p
    exact q v B3 H3 (hV B2 B3 v q2) ((e1.trans e2).trans p.b) (st2.called1 hj rfl p)
  · rw [hm] at e; cases e
/-- a new keeper -/
def XK2 (C : Ct) (te : TE) (D : Addr) (s : Tx × List Int) (C' : Ct) : Prop := ∀ (F B0 : Hp) (σ : L2.St) (B H : Hp) (Q : VK), STB F B0 C B σ H → (∀ (k : Kp) B' H', Same B B' → STB F B0 ⟨C'.g, kpC D k s :: C'.o⟩ B' σ H' → Q (.ref k.p) H') → te σ H Q
/-- the promise of __init__: of a bare instance comes a keeper of nothing -/
def spInit (D : Addr) : Sp := fun vs H Q _ => ∃ x dx B, vs = [.ref x] ∧ Same B H ∧ Own (fun _ => none) B H [insC D x dx []] ∧
  ∀ q B1 H1, Same B B1 → Same B1 H1 → (∀ a o, H a = some o → (a ≠ x ∧ a ≠ dx) → H1 a = some o) → (∀ a, B1 a ≠ none → B a ≠ none ∨ H a = none ∨ a = x ∨ a = dx) → H q = none → Own (fun _ => none) B1 H1 [kpC D ⟨x, dx, q⟩ ([], [])] → Q .non H1
end
end Fw

namespace Fw
open PySem PySem.Spec L2
open PySem.W (Datum DatumOrd Holds HoldAll SomeDatum)

section
variable {fa : List He.Fa} {fn : List He.DefD} {K : Fg} {mg : Str → Option Value} {base : Heap}
theorem Md.cls (M : Md fa fn K mg base) (i : Nat) {x : Str} (h : fa[i]? = some (.cls x) := by rfl) : Cls K (He.ga K x) := He.cls_ok (M.says.fact i h)
theorem Md.noat (M : Md fa fn K mg base) (i : Nat) {x f : Str} (h : fa[i]? = some (.noat x f) := by rfl) : NoAttr K (He.ga K x) f := He.noat_ok (M.says.fact i h)
theorem Md.meth (M : Md fa fn K mg base) (i : Nat) {x m : Str} (h : fa[i]? = some (.meth x m) := by rfl) : Meth K (He.ga K x) m (He.ma K (He.ga K x) m) := He.meth_ok (M.says.fact i h)
theorem Md.mkr (M : Md fa fn K mg base) (i : Nat) {x : Str} (h : fa[i]? = some (.mkr x) := by rfl) : Mk K (He.ga K x) (He.ma K (He.ga K x) "__init__") := He.mkr_ok (M.says.fact i h)
end
/-! ### methods -/
section
variable {P : Program} {w : World} {K : Fg} {mg : Str → Option Value} {base : Heap} {x qual : Str} {params : Arguments} {body : List Stmt} {scope : Scope} {f : Addr} {fd : FuncData} {N ps : List Str} {k : Nat} {D : Addr} {m : Str}
theorem cam_mk (fs : Fs) {S : Type} (F : FunD K x qual params body scope [] [] f fd) (sc : FnScope N ps scope) (hg : Meth K D m f) (hb : Binds K fd ps []) (hl : ∀ a, (fs.Rs a).length = ps.length)
    (o : fs.A → Ctl S fs.R fs.X) (CS : fs.A → S → Ct) (d : fs.A → S → fs.R)
    (h : ∀ (cdv : Value) (A : Around) (outer : List PySem.Env) (s : Shared) (H : Hp) (E : XK), Room k (A.deeper (PyProof.Rows.envOfC qual scope s.heap.objs.size f cdv)) →
      ∃ t, PSs (cxOf CX0 P w K mg base N qual scope f cdv A outer s H E).nox body t ∧ ∀ a, fs.pre a → XB ((fs.sg a).tm E) ⟨(fs.Rs a).map some ++ List.replicate (N.length - (fs.Rs a).length) none, fs.I a⟩ t (o a) (CS a))
    (hm : ∀ a, fs.pre a → fs.m a = (o a).bind fun s => .rt (d a s)) (hd : ∀ a s, fs.pre a → (∀ B0 B : Hp, ((fs.sg a).vr (d a s) B0).P B .non) ∧ List.Sublist ((fs.sg a).oc (d a s)) (CS a s).o) :
    CalM P w K mg base CX0 (k + 1) D m fs.sp :=
  ⟨f, fd, ps, F.ok sc (allS_len hl) (fun cdv A outer s H vs Q E hr hsp => by
    obtain ⟨t, h1, h2⟩ := h cdv A outer s H E hr
    exact ⟨t, h1.nox, Fs.body (N := N) h2 hm hd hsp⟩), hg, hb⟩
theorem cam_mkX (fs : Fs) {S : Type} (F : FunD K x qual params body scope [] [] f fd) (sc : FnScope N ps scope) (hg : Meth K D m f) (hb : Binds K fd ps []) (hl : ∀ a, (fs.Rs a).length = ps.length)
    (o : fs.A → Ctl S fs.R fs.X) (CS : fs.A → S → Ct) (d : fs.A → S → fs.R)
    (h : ∀ (cdv : Value) (A : Around) (outer : List PySem.Env) (s : Shared) (H : Hp) (E : XK), Room k (A.deeper (PyProof.Rows.envOfC qual scope s.heap.objs.size f cdv)) →
      ∃ t, PSs (cxOf (L2.CX P w) P w K mg base N qual scope f cdv A outer s H E) body t ∧ ∀ a, fs.pre a → XB ((fs.sg a).tm E) ⟨(fs.Rs a).map some ++ List.replicate (N.length - (fs.Rs a).length) none, fs.I a⟩ t (o a) (CS a))
    (hm : ∀ a, fs.pre a → fs.m a = (o a).bind fun s => .rt (d a s)) (hd : ∀ a s, fs.pre a → (∀ B0 B : Hp, ((fs.sg a).vr (d a s) B0).P B .non) ∧ List.Sublist ((fs.sg a).oc (d a s)) (CS a s).o) :
    CalM P w K mg base (L2.CX P w) (k + 1) D m fs.sp :=
  ⟨f, fd, ps, F.ok sc (allS_len hl) (fun cdv A outer s H vs Q E hr hsp => by
    obtain ⟨t, h1, h2⟩ := h cdv A outer s H E hr
    exact ⟨t, h1, Fs.body (N := N) h2 hm hd hsp⟩), hg, hb⟩
end
/-! ### a new keeper -/
def spI (D : Addr) : Sp := fun vs H Q _ => ∃ x dx, vs = [.ref x] ∧ H x = some (.ins D dx []) ∧ ∀ q, H q = none → Q .non (upd (upd H q (.lst [])) x (.ins D dx [("letters", .str (S [])), ("held", .ref q)]))
def tInit (K : Fg) : TS := tSeq (sFld K (tVar 0) (tC (.str "")) "letters") (tSeq (sFld K (tVar 0) (tLst tNil) "held") tNext)
theorem init_ok {K : Fg} {D : Addr} (cl : Cls K D) (n1 : NoAttr K D "letters") (n2 : NoAttr K D "held") (vs : List V) (H : Hp) (Q : VK) (E : XK) (h : spI D vs H Q E) : tInit K { nx := fun _ H' => Q .non H', rt := Q } (L2.start ["self"] vs) H := by
  obtain ⟨x, dx, rfl, hx, q⟩ := h
  have e0 : V.str "" = V.str (S []) := rfl
  refine ⟨.ref x, rfl, x, D, dx, [], rfl, hx, cl, n1, by decide, ?_⟩
  refine ⟨by decide, fun p hp => ?_⟩
  have hpx : p ≠ x := fun z => by rw [z, upd_same] at hp; cases hp
  have hp' : H p = none := by rw [upd_ne hpx] at hp; exact hp
  refine ⟨.ref x, rfl, x, D, dx, [("letters", .str "")], rfl, ?_, cl, n2, by decide, ?_⟩
  · rw [upd_ne fun z => hpx z.symm, upd_same]; rfl
  · have e : upd (upd (upd H x (.ins D dx [("letters", V.str "")])) p (.lst [])) x (.ins D dx [("letters", .str ""), ("held", .ref p)]) = upd (upd H p (.lst [])) x (.ins D dx [("letters", .str (S [])), ("held", .ref p)]) := by
      funext a
      by_cases h1 : a = x
      · subst h1; rw [upd_same, upd_same]; rfl
      · rw [upd_ne h1, upd_ne h1]
        by_cases h2 : a = p
        · subst h2; rw [upd_same, upd_same]
        · rw [upd_ne h2, upd_ne h2, upd_ne h1]
    have := q p hp'
    rw [← e] at this
    exact this
theorem Own.swap {F B H : Hp} {a b : Cell} {cs : List Cell} (h : Own F B H (a :: b :: cs)) : Own F B H (b :: a :: cs) := by
  obtain ⟨h1, h2, h3, h4, h5, h6, h7⟩ := h
  refine ⟨h4, h5, fun d hd x hx => ?_, h1, h2, fun d hd => h3 d (by simp [hd]), h7⟩
  rcases List.mem_cons.mp hd with rfl | hd
  · exact fun z => h3 b (by simp) x z hx
  · exact h6 d hd x hx
section
variable {C C1 C2 : Ct} {E : XK} {K : Fg} {D : Addr} {S' R X : Type} {T : Tm R X} {te : TE} {u : TS} {o : Ctl S' R X} {CS : S' → Ct} {ta : TE}
theorem x_make : XK2 C (tMake D (spI D) [] E tNil) D ([], []) C := fun F B0 σ B H Q st q => fun x dx hx hdx hne => by
  have st1 := st.newO2 hx hdx hne D
  refine ⟨x, dx, rfl, upd_same, fun p hp => ⟨rfl, ?_⟩⟩
  have hpx : p ≠ x := fun z => by rw [z, upd_same] at hp; cases hp
  have st2 := st1.newO hp (.lst []) (c := lstC p ([] : List Int)) rfl fun H' h' => ⟨[], h', trivial⟩
  have hin := (st2.own.at (j := 1) rfl).2
  have st3 := st2.upd (j := 1) (c := insC D x dx []) (c' := insC D x dx (kfl ⟨x, dx, p⟩ ([], []))) (H' := upd (upd (upd (upd H dx (.own x)) x (.ins D dx [])) p (.lst [])) x (.ins D dx (kfl ⟨x, dx, p⟩ ([], [])))) rfl rfl
    (fun a ha => upd_ne fun z => ha (by simp [insC, z])) ⟨upd_same, by rw [upd_ne hne]; exact hin.2⟩
  refine q ⟨x, dx, p⟩ B _ (Same.refl B) ⟨st3.fr, st3.bh, st3.b0, st3.nw, st3.env, own_kp.mpr st3.own.swap⟩
theorem b_asgK {i : Nat} {s : Tx × List Int} (h : XK2 C te D s C1) (k : ∀ kp : Kp, XB T ⟨C1.g.set i (some (isr kp.p)), kpC D kp s :: C1.o⟩ u o CS) : XB T C (tSeq (tAsg te (gName i)) u) o CS := fun F B0 Dn σ B H st hn hr hx =>
  h F B0 σ B H _ st fun kp B1 H1 e1 st1 => k kp F B0 Dn _ B1 H1 (st1.set i (r := isr kp.p) rfl) hn hr hx
/-- p.pop() -/
theorem b_popD {α : Type} [Rp α] {xs : List α} {p : Addr} (j : Nat) (ha : XE C ta (isr p) C1) (hz : xs ≠ []) (k : XB T ⟨C1.g, C1.o.set j (lstC p xs.dropLast)⟩ u o CS) (hj : C1.o[j]? = some (lstC p xs) := by rfl) :
    XB T C (tSeq (tDrop (tBM0 K "list" rPop ta)) u) o CS := fun F B0 D σ B H st hn hr hx => ha F B0 σ B H _ st fun v B1 H1 rv e1 st1 => by
  have rv' : v = .ref p := rv
  subst rv'
  obtain ⟨vs, hp, hv⟩ := (st1.own.at hj).2
  have hlen := hv.len
  have hpos : 0 < xs.length := List.length_pos_iff.mpr hz
  have hi : vs.length - 1 < vs.length := by omega
  refine ⟨.inl ⟨rfl, vs, SqL.of hp⟩, p, vs, vs[vs.length - 1], rfl, rfl, hp, List.getElem?_eq_getElem hi, ?_⟩
  have hd : All2 (Rp.is B1) vs.dropLast xs.dropLast := by
    rw [List.dropLast_eq_take, List.dropLast_eq_take, hlen]
    exact hv.take _
  exact k F B0 D σ B1 _ (st1.upd (c' := lstC p xs.dropLast) hj rfl (fun a ha => upd_ne fun z => ha (by simp [lstC, z])) ⟨_, upd_same, hd⟩) hn hr hx
end
/-! ### texts in order -/
def leT (a b : Tx) : Bool := !decide (b < a)
abbrev rLeS : R2 := fun x y H Q => ∃ i j, x = .str i ∧ y = .str j ∧ Q (.bl (!decide (j.cps.toList < i.cps.toList))) H
section
variable {C C1 C2 : Ct} {ta tb tc : TE}
theorem x_chainS {x y z : Tx} (ha : XE C ta (isa x) C) (hb : XE C tb (isa y) C) (hc : XE C tc (isa z) C) : XE C (tChain rLeS rLeS ta tb tc) (isa (leT x y && leT y z)) C := fun F B0 σ B H Q st q =>
  ha F B0 σ B H _ st fun v B1 H1 rv e1 st1 => hb F B0 σ B1 H1 _ st1 fun w B2 H2 rw' e2 st2 => ⟨S x, S y, rv, rw', leT x y, rfl, by
    cases e : leT x y with
    | true => exact hc F B0 σ B2 H2 _ st2 fun u B3 H3 ru e3 st3 => ⟨S y, S z, rw', ru, q _ B3 H3 (show V.bl (leT y z) = V.bl (leT x y && leT y z) by rw [e]; rfl) ((e1.trans e2).trans e3) st3⟩
    | false => exact q _ B2 H2 (show V.bl false = V.bl (leT x y && leT y z) by rw [e]; rfl) (e1.trans e2) st2⟩
end
/-! ### two owned things are changed by one call -/
section
variable {C C1 C2 : Ct} {ta : TA} {R : Sl} {E : XK} {fs : Fs}
theorem Own.perm {F B H : Hp} {cs cs' : List Cell} (p : List.Perm cs cs') (h : Own F B H cs) : Own F B H cs' := by
  induction p with
  | nil => exact h
  | cons x p ih =>
    obtain ⟨h1, h2, h3, h4⟩ := h
    exact ⟨h1, h2, fun d hd => h3 d (p.mem_iff.mpr hd), ih h4⟩
  | swap x y l => exact h.swap
  | trans p q ih1 ih2 => exact ih2 (ih1 h)
theorem STB.perm {F B0 : Hp} {C : Ct} {B : Hp} {σ : L2.St} {H : Hp} (s : STB F B0 C B σ H) {os : List Cell} (p : List.Perm C.o os) : STB F B0 ⟨C.g, os⟩ B σ H := ⟨s.fr, s.bh, s.b0, s.nw, s.env, s.own.perm p⟩
/-- any owned things are changed: they stand first behind a permutation -/
theorem x_callP (a : fs.A) (hp : fs.pre a) {r : fs.R} {rest out : List Cell} (ha : XA C ta (fs.Rs a) C1) (p1 : List.Perm C1.o (fs.I a ++ rest)) (p2 : List.Perm ((fs.sg a).oc r ++ rest) out) (hm : fs.m a = .rt r := by rfl) (has : ((fs.sg a).oc r).map (·.as) = (fs.I a).map (·.as) := by rfl)
    (hV : ∀ (B0 B : Hp) v, ((fs.sg a).vr r B0).P B v → R.P B v := by exact fun _ _ _ h => h) :
    XE C (tCall fs.sp [] E ta) R ⟨C1.g, out⟩ := fun F B0 σ B H Q st q => ha F B0 σ B H _ st fun vs B1 H1 rv e1 st1 => by
  have st1' := st1.perm p1
  rw [List.append_nil]
  refine ⟨a, hp, B1, st1.bh, rv, ownN (A := []) (Z := rest) st1'.own, fun r' e v B2 H2 p q2 => ?_, fun x e => ?_⟩
  · rw [hm] at e; cases e
    have := st1'.calledN (A := []) (Z := rest) rfl has p
    exact q v B2 H2 (hV B1 B2 v q2) (e1.trans p.b) (this.perm p2)
  · rw [hm] at e; cases e
end
end Fw

namespace Fw
open PySem PySem.Spec L2
open PySem.W (Datum DatumOrd Holds HoldAll SomeDatum)
/-- the fields of a keeper -/
abbrev kfT (k : Kp) (t : Tx) : List (Str × V) := [("letters", .str (S t)), ("held", .ref k.q)]
theorem put_kfT {k : Kp} {t u : Tx} : putF "letters" (.str (S u)) (kfT k t) = kfT k u := rfl
section
variable {X S' R' : Type} {T : Tm R' X} {oo : Ctl S' R' X} {CS : S' → Ct} {C C1 C2 : Ct} {ta tv : TE} {u : TS} {K : Fg} {D : Addr} {k : Kp} {t z : Tx}
theorem x_kl (j : Nat) (cl : Cls K D) (na : NoAttr K D "letters") (h : XE C ta (isr k.p) C1) (hj : C1.o[j]? = some (insC D k.p k.dx (kfT k t)) := by rfl) : XE C (tFld K ta "letters") (isa t) C1 := x_fld j (.str (S t)) cl na h rfl (fun _ => rfl) hj
theorem x_kh (j : Nat) (cl : Cls K D) (na : NoAttr K D "held") (h : XE C ta (isr k.p) C1) (hj : C1.o[j]? = some (insC D k.p k.dx (kfT k t)) := by rfl) : XE C (tFld K ta "held") (isr k.q) C1 := x_fld j (.ref k.q) cl na h rfl (fun _ => rfl) hj
theorem b_kl (j : Nat) (cl : Cls K D) (na : NoAttr K D "letters") (hv : XE C tv (isa z) C1) (h : XE C1 ta (isr k.p) C1) (hk : XB T ⟨C1.g, C1.o.set j (insC D k.p k.dx (kfT k z))⟩ u oo CS) (hj : C1.o[j]? = some (insC D k.p k.dx (kfT k t)) := by rfl) :
    XB T C (tSeq (sFld K ta tv "letters") u) oo CS := b_fld j cl na hv h (.str (S z)) (fun _ _ e => e) (by show 2 < 1000; decide) (by rw [put_kfT]; exact hk) hj
end
/-- a value, or an exception of an own class; owned things changed -/
def exio (K : Fg) (R T : Type) [Rp R] (c : T → List Cell) : Sg (R × T) (Str × T) := ⟨fun r _ => isa r.1, fun r => c r.2, fun x => c x.2, fun x => .ref (He.ga K x.1), fun _ h => h⟩
/-- a value; owned things stay -/
def ro (R : Type) [Rp R] (c : List Cell) : Sg R Empty := ⟨fun r _ => isa r, fun _ => c, fun x => x.elim, fun x => x.elim, fun _ h => h⟩
/-- a new list; owned things changed -/
def nuio (α T : Type) [Rp α] (c : T → List Cell) : Sg (List α × T) Empty := ⟨fun r B0 => nuS r.1 B0, fun r => c r.2, fun x => x.elim, fun x => x.elim, nuS_m⟩
def nuro (α : Type) [Rp α] (c : List Cell) : Sg (List α) Empty := ⟨fun r B0 => nuS r B0, fun _ => c, fun x => x.elim, fun x => x.elim, nuS_m⟩
theorem nuS_isa {α : Type} [Rp α] {r : List α} {B0 B : Hp} {v : V} (h : (nuS r B0).P B v) : (isa r).P B v := by
  obtain ⟨p, vs, h1, h2, h3, _⟩ := h
  exact ⟨p, vs, h1, h2, h3⟩
theorem out_eqS {S R : Type} (o : Ctl S R Empty) (d : S → R) : (Ctl.rt (o.out d) : Ctl Empty R Empty) = o.bind fun s => .rt (d s) := by cases o with
  | nx s => rfl
  | rt r => rfl
  | rs x => exact x.elim
section
variable {X S' R' : Type} {T : Tm R' X} {CS : S' → Ct} {C C1 C2 : Ct} {ta tv : TE} {u : TS} {K : Fg} {D : Addr} {k : Kp} {t z : Tx}
theorem b_klV {f : Tx → Ctl S' R' X} (j : Nat) (cl : Cls K D) (na : NoAttr K D "letters") (hv : XE C tv (isa z) C1) (h : XE C1 ta (isr k.p) C1) (hk : ∀ y, y = z → XB T ⟨C1.g, C1.o.set j (insC D k.p k.dx (kfT k y))⟩ u (f y) CS) (hj : C1.o[j]? = some (insC D k.p k.dx (kfT k t)) := by rfl) :
    XB T C (tSeq (sFld K ta tv "letters") u) (letC z f) CS := b_kl j cl na hv h (hk z rfl) hj
end
section
variable {C C1 : Ct} {ta : TA} {R : Sl} {E : XK} {fs : Fs}
theorem perm_at : ∀ {l : List Cell} {i : Nat} {c : Cell}, l[i]? = some c → List.Perm l (c :: l.eraseIdx i)
  | [], i, c, h => by simp at h
  | x :: l, 0, c, h => by
    have h : x = c := by simpa using h
    subst h
    exact List.Perm.refl _
  | x :: l, i + 1, c, h => by
    have h : l[i]? = some c := by simpa using h
    exact ((perm_at h).cons x).trans (List.Perm.swap c x _)
/-- two owned things are changed; j2 is the second one's place without the first -/
theorem x_call2 (i j : Nat) (out : List Cell) (j2 : Nat) (a : fs.A) (hp : fs.pre a) {r : fs.R} {c d c' d' : Cell} (ha : XA C ta (fs.Rs a) C1) (hm : fs.m a = .rt r := by rfl) (hI : fs.I a = [c, d] := by rfl) (ho : (fs.sg a).oc r = [c', d'] := by rfl)
    (hi : C1.o[i]? = some c := by rfl) (hj : (C1.o.eraseIdx i)[j2]? = some d := by rfl) (hi' : out[i]? = some c' := by rfl) (hj' : (out.eraseIdx i)[j2]? = some d' := by rfl) (hr : (out.eraseIdx i).eraseIdx j2 = (C1.o.eraseIdx i).eraseIdx j2 := by rfl) (h1 : c'.as = c.as := by rfl) (h2 : d'.as = d.as := by rfl)
    (hV : ∀ (B0 B : Hp) v, ((fs.sg a).vr r B0).P B v → R.P B v := by exact fun _ _ _ h => h) :
    XE C (tCall fs.sp [] E ta) R ⟨C1.g, out⟩ :=
  x_callP a hp (rest := (C1.o.eraseIdx i).eraseIdx j2) ha (by rw [hI]; exact (perm_at hi).trans ((perm_at hj).cons c)) (by rw [ho, ← hr]; exact ((perm_at hi').trans ((perm_at hj').cons c')).symm) hm (by rw [ho, hI]; simp [h1, h2]) hV
end
theorem b_raiseG {S R X : Type} {T : Tm R X} {C : Ct} {CS : S → Ct} {u : TS} {W : WX} {Cv : Value} {x : X} (hw : ∀ (σ : L2.St) H, T.wx x σ H → W Cv none σ H) (hc : List.Sublist (T.ec x) C.o) : XB T C (tSeq (tRs Cv W) u) (.rs x) CS := fun F B0 D σ B H st hn hr hx =>
  hw σ H (hx x rfl σ B H (st.end_ hc))
theorem x_tx {C : Ct} (s : String) : XE C (tC (.str (PySem.Str.ofString s))) (isa (tx s)) C := x_str
theorem tx_nil : tx "" = [] := rfl
theorem ixI_mem {α : Type} [Inhabited α] {xs : List α} {i : Int} (h : Ib xs.length i) : ixI xs i ∈ xs := by
  obtain ⟨j, _, x, hx, ha⟩ := atI_some h.1 h.2
  unfold ixI
  rw [ha]
  exact List.mem_of_getElem? hx
theorem x_isiO {C C1 : Ct} {ta : TE} {K : Fg} {o : Option Int} {T : String} (b : Bool) (h : XE C ta (isa o) C1) (hb : kitB "int" T = some b) (hn : kitB "NoneType" T = some false) : XE C (tCB (rIsi K) (tCons ta (tCons (tC (.ty T)) tNil))) (isa (o.isSome && b)) C1 :=
  xe_cb2 (Rb := ⟨fun _ v => v = .ty T, fun _ h => h⟩) h (x_c fun _ => rfl) fun F B0 σ B H v w Q st rv rw' q => by
    cases o with
    | none =>
      have rv' : v = .non := rv
      subst rv'
      exact ⟨.non, .ty T, _, _, false, by rw [show w = V.ty T from rw'], .ty T, .base .non, kit_ty hn, q _ B H rfl (Same.refl B) st⟩
    | some i =>
      have rv' : v = .int i := rv.2
      subst rv'
      exact ⟨.int i, .ty T, _, _, b, by rw [show w = V.ty T from rw'], .ty T, .base (.int _), kit_ty hb, q _ B H rfl (Same.refl B) st⟩
theorem len_pos {t : Tx} (h : decide (t = tx "") = false) : 0 < t.length := List.length_pos_iff.mpr fun e => of_decide_eq_false h e
theorem setI_len {α : Type} (xs : List α) (i : Int) (x : α) : (setI xs i x).length = xs.length := by
  unfold setI; split <;> simp
theorem ixI_setI {α : Type} [Inhabited α] {xs : List α} {i : Int} {x : α} (h0 : 0 ≤ i) (h1 : i < xs.length) : ixI (setI xs i x) i = x := by
  have e : ixN xs.length i = some i.toNat := by unfold ixN; rw [if_pos h0, if_pos h1]
  have e2 : setI xs i x = xs.set i.toNat x := by unfold setI; rw [e]
  rw [e2]
  unfold ixI atI
  rw [List.length_set, e]
  show ((xs.set i.toNat x)[i.toNat]?).getD default = x
  rw [List.getElem?_set_self (by omega)]; rfl
theorem b_let {S R X α : Type} {T : Tm R X} {t : TS} {CS : S → Ct} {x : α} {f : α → Ctl S R X} (C : α → Ct) (h : ∀ y, y = x → XB T (C y) t (f y) CS) : XB T (C x) t (letC x f) CS := h x rfl
/-- .. at a place that is known -/
theorem x_ixOc {C C1 C2 : Ct} {ta tb : TE} {K : Fg} {α : Type} [Rp α] [Inhabited α] {xs : List α} {i : Int} {p : Addr} {x : α} (j : Nat) (ha : XE C ta (isr p) C1) (hb : XE C1 tb (isa i) C2) (hi : Ib xs.length i) (he : ixI xs i = x := by rfl) (hj : C2.o[j]? = some (lstC p xs) := by rfl) : XE C (tOp (rIxL K) ta tb) (isa x) C2 := he ▸ x_ixO j ha hb hi hj
theorem set_same {C : Ct} {j : Nat} {c : Cell} (h : C.o[j]? = some c) : (⟨C.g, C.o.set j c⟩ : Ct) = C := by
  obtain ⟨hj, e⟩ := List.getElem?_eq_some_iff.mp h
  have : C.o.set j c = C.o := by rw [← e, List.set_getElem_self]
  rw [this]
/-- a call that looks at one owned thing -/
theorem x_callR {C C1 : Ct} {ta : TA} {R : Sl} {E : XK} {fs : Fs} (j : Nat) (a : fs.A) (hp : fs.pre a) {r : fs.R} {c : Cell} (ha : XA C ta (fs.Rs a) C1) (hm : fs.m a = .rt r := by rfl) (hI : fs.I a = [c] := by rfl) (ho : (fs.sg a).oc r = [c] := by rfl) (hj : C1.o[j]? = some c := by rfl)
    (hV : ∀ (B0 B : Hp) v, ((fs.sg a).vr r B0).P B v → R.P B v := by exact fun _ _ _ h => h) : XE C (tCall fs.sp [] E ta) R C1 := by
  have := x_call1 (E := E) (R := R) j a hp ha hm hI ho hj rfl hV
  rwa [set_same hj] at this
theorem x_methR {C C1 C2 : Ct} {ta : TE} {t : TA} {R : Sl} {E : XK} {fs : Fs} {D : Addr} {m : Str} {k : Kp} {s : Tx × List Int} (j : Nat) (a : fs.A) (hp : fs.pre a) {r : fs.R} (ho : XE C ta (isr k.p) C1) {Rs : List Sl} (ha : XA C1 t Rs C2) (hRs : fs.Rs a = isr k.p :: Rs := by rfl) (hl : (kfl k s).lookup m = none := by rfl) (hm : fs.m a = .rt r := by rfl)
    (hI : fs.I a = [kpC D k s] := by rfl) (hoc : (fs.sg a).oc r = [kpC D k s] := by rfl) (hji : C1.o[j]? = some (kpC D k s) := by rfl) (hj : C2.o[j]? = some (kpC D k s) := by rfl)
    (hV : ∀ (B0 B : Hp) v, ((fs.sg a).vr r B0).P B v → R.P B v := by exact fun _ _ _ h => h) :
    XE C (tMeth D m fs.sp [] E ta t) R C2 := by
  have := x_methK (E := E) (R := R) (s' := s) j a hp ho ha hRs hl hm hI hoc hji hj hV
  rwa [set_same hj] at this
section
variable {P : Program} {w : World} {K : Fg} {mg : Str → Option Value} {base : Heap} {nm qual : Str} {params : Arguments} {body : List Stmt} {scope : Scope} {f : Addr} {fd : FuncData} {N ps : List Str} {k : Nat}
/-- the law itself -/
theorem fn_mk (fs : Fs) {S : Type} (F : FunD K nm qual params body scope [] [] f fd) (sc : FnScope N ps scope) (hl : ∀ a, (fs.Rs a).length = ps.length)
    (o : fs.A → Ctl S fs.R fs.X) (CS : fs.A → S → Ct) (d : fs.A → S → fs.R)
    (h : ∀ (cdv : Value) (A : Around) (outer : List PySem.Env) (s : Shared) (H : Hp) (E : XK), Room k (A.deeper (PyProof.Rows.envOfC qual scope s.heap.objs.size f cdv)) →
      ∃ t, PSs (cxOf CX0 P w K mg base N qual scope f cdv A outer s H E).nox body t ∧ ∀ a, fs.pre a → XB ((fs.sg a).tm E) ⟨(fs.Rs a).map some ++ List.replicate (N.length - (fs.Rs a).length) none, fs.I a⟩ t (o a) (CS a))
    (hm : ∀ a, fs.pre a → fs.m a = (o a).bind fun s => .rt (d a s)) (hd : ∀ a s, fs.pre a → (∀ B0 B : Hp, ((fs.sg a).vr (d a s) B0).P B .non) ∧ List.Sublist ((fs.sg a).oc (d a s)) (CS a s).o) :
    FnOk P w K mg base CX0 (k + 1) f fd ps fs.sp := F.ok sc (allS_len hl) (fun cdv A outer s H vs Q E hr hsp => by
    obtain ⟨t, h1, h2⟩ := h cdv A outer s H E hr
    exact ⟨t, h1.nox, Fs.body (N := N) h2 hm hd hsp⟩)
theorem fn_mkX (fs : Fs) {S : Type} (F : FunD K nm qual params body scope [] [] f fd) (sc : FnScope N ps scope) (hl : ∀ a, (fs.Rs a).length = ps.length)
    (o : fs.A → Ctl S fs.R fs.X) (CS : fs.A → S → Ct) (d : fs.A → S → fs.R)
    (h : ∀ (cdv : Value) (A : Around) (outer : List PySem.Env) (s : Shared) (H : Hp) (E : XK), Room k (A.deeper (PyProof.Rows.envOfC qual scope s.heap.objs.size f cdv)) →
      ∃ t, PSs (cxOf (L2.CX P w) P w K mg base N qual scope f cdv A outer s H E) body t ∧ ∀ a, fs.pre a → XB ((fs.sg a).tm E) ⟨(fs.Rs a).map some ++ List.replicate (N.length - (fs.Rs a).length) none, fs.I a⟩ t (o a) (CS a))
    (hm : ∀ a, fs.pre a → fs.m a = (o a).bind fun s => .rt (d a s)) (hd : ∀ a s, fs.pre a → (∀ B0 B : Hp, ((fs.sg a).vr (d a s) B0).P B .non) ∧ List.Sublist ((fs.sg a).oc (d a s)) (CS a s).o) :
    FnOk P w K mg base (L2.CX P w) (k + 1) f fd ps fs.sp := F.ok sc (allS_len hl) (fun cdv A outer s H vs Q E hr hsp => by
    obtain ⟨t, h1, h2⟩ := h cdv A outer s H E hr
    exact ⟨t, h1, Fs.body (N := N) h2 hm hd hsp⟩)
end
theorem ib_last {α : Type} {xs : List α} (h : xs ≠ []) : Ib xs.length (-1) := by
  have : 0 < xs.length := List.length_pos_iff.mpr h
  unfold Ib; omega
/-- all of a list lie from 0 to 60 -/
def InR (l : List Int) : Prop := ∀ x ∈ l, 0 ≤ x ∧ x ≤ 60
section
variable {P : Program} {w : World} {K : Fg} {mg : Str → Option Value} {base : Heap} {x nm qual : Str} {params : Arguments} {body : List Stmt} {scope : Scope} {f : Addr} {fd : FuncData} {N ps : List Str} {k : Nat}
/-- a def under another name -/
theorem cal_mkQ (fs : Fs) {S : Type} (F : FunD K nm qual params body scope [] [] f fd) (sc : FnScope N ps scope) (hg : mg x = some (.ref f)) (hb : Binds K fd ps []) (hl : ∀ a, (fs.Rs a).length = ps.length)
    (o : fs.A → Ctl S fs.R fs.X) (CS : fs.A → S → Ct) (d : fs.A → S → fs.R)
    (h : ∀ (cdv : Value) (A : Around) (outer : List PySem.Env) (s : Shared) (H : Hp) (E : XK), Room k (A.deeper (PyProof.Rows.envOfC qual scope s.heap.objs.size f cdv)) →
      ∃ t, PSs (cxOf CX0 P w K mg base N qual scope f cdv A outer s H E).nox body t ∧ ∀ a, fs.pre a → XB ((fs.sg a).tm E) ⟨(fs.Rs a).map some ++ List.replicate (N.length - (fs.Rs a).length) none, fs.I a⟩ t (o a) (CS a))
    (hm : ∀ a, fs.pre a → fs.m a = (o a).bind fun s => .rt (d a s)) (hd : ∀ a s, fs.pre a → (∀ B0 B : Hp, ((fs.sg a).vr (d a s) B0).P B .non) ∧ List.Sublist ((fs.sg a).oc (d a s)) (CS a s).o) :
    Cal P w K mg base CX0 (k + 1) x fs.sp :=
  ⟨f, fd, ps, F.ok sc (allS_len hl) (fun cdv A outer s H vs Q E hr hsp => by
    obtain ⟨t, h1, h2⟩ := h cdv A outer s H E hr
    exact ⟨t, h1.nox, Fs.body (N := N) h2 hm hd hsp⟩), hg, F.kp, hb⟩
end
end Fw

namespace Fw
open PySem PySem.Spec L2
open PySem.W (Datum DatumOrd Holds HoldAll SomeDatum)

/-! ### tests that change an owned thing -/
section
variable {C : Ct} {t u : TT} {a b : Bool}
theorem t_andE {σt : Type} (D : σt → Ct) (s1 s2 : σt) (h : XT C t a (D s1)) (hb : a = true → XT (D s1) u b (D s2)) : XT C (tAnd t u) (a && b) (D (if a = true then s2 else s1)) := fun F B0 σ B H Q st q => h F B0 σ B H _ st fun B1 H1 e1 st1 => by
    cases a with
    | true => exact hb rfl F B0 σ B1 H1 _ st1 fun B2 H2 e2 st2 => q B2 H2 (e1.trans e2) st2
    | false => exact q B1 H1 e1 st1
theorem t_orE {σt : Type} (D : σt → Ct) (s1 s2 : σt) (h : XT C t a (D s1)) (hb : a = false → XT (D s1) u b (D s2)) : XT C (tOr t u) (a || b) (D (if a = true then s1 else s2)) := fun F B0 σ B H Q st q => h F B0 σ B H _ st fun B1 H1 e1 st1 => by
    cases a with
    | false => exact hb rfl F B0 σ B1 H1 _ st1 fun B2 H2 e2 st2 => q B2 H2 (e1.trans e2) st2
    | true => exact q B1 H1 e1 st1
end
/-! ### lists of owned things' addresses -/
structure Rf where
  a : Addr
instance : Inhabited Rf := ⟨⟨0⟩⟩
instance : Rp Rf := ⟨fun _ v r => v = .ref r.a, fun _ h => h⟩
section
variable {C C1 C2 : Ct} {ta tb : TE} {K : Fg}
theorem x_ixF {xs : List Rf} {i : Int} {p : Addr} (ha : XE C ta (isa xs) C1) (hb : XE C1 tb (isa i) C2) (hi : Ib xs.length i) (he : ixI xs i = ⟨p⟩ := by rfl) : XE C (tOp (rIxL K) ta tb) (isr p) C2 := by
  have h : XE C (tOp (rIxL K) ta tb) (isa (ixI xs i)) C2 := x_ixL ha hb hi
  rw [he] at h
  exact h
/-- a thing that may be nothing, known to be something -/
theorem x_unO {α : Type} [Rp α] {o : Option α} {d : α} (h : XE C ta (isa o) C1) (hn : o.isNone = false) : XE C ta (isa (o.getD d)) C1 := h.as fun B v r => by
  cases o with
  | none => cases hn
  | some x => exact r.2
end
section
variable {S R X : Type} {T : Tm R X} {t : TS} {CS : S → Ct} {C : Ct}
theorem b_cases {c : Bool} {o1 o2 : Ctl S R X} (h1 : c = true → XB T C t o1 CS) (h2 : c = false → XB T C t o2 CS) : XB T C t (if c = true then o1 else o2) CS := by
  cases c with
  | true => exact h1 rfl
  | false => exact h2 rfl
/-- a number known by now -/
theorem b_known {o : Ctl S R X} {x v : Int} (C : Int → Ct) (h : x = v) (k : XB T (C v) t o CS) : XB T (C x) t o CS := h ▸ k
end
section
variable {C : Ct} {E : XK} {K : Fg} {D : Addr} {S' R X : Type} {T : Tm R X} {u : TS} {o : Ctl S' R X} {CS : S' → Ct}
theorem b_asgK2 {i : Nat} (k : ∀ k0 k1 : Kp, XB T ⟨C.g.set i (some (isa ([⟨k0.p⟩, ⟨k1.p⟩] : List Rf))), kpC D k1 ([], []) :: kpC D k0 ([], []) :: C.o⟩ u o CS) :
    XB T C (tSeq (tAsg (tLst (tCons (tMake D (spI D) [] E tNil) (tCons (tMake D (spI D) [] E tNil) tNil))) (gName i)) u) o CS := fun F B0 Dn σ B H st hn hr hx => by
  unfold tSeq tAsg tLst tCons
  dsimp only
  refine x_make (E := E) (D := D) F B0 σ B H _ st fun k0 B1 H1 e1 st1 => ?_
  refine x_make (E := E) (D := D) F B0 σ B1 H1 _ st1 fun k1 B2 H2 e2 st2 => ?_
  refine ⟨by rw [sizeLine_eq]; show 2 ≤ 16777216; omega, fun p hp => ?_⟩
  have st3 := st2.new hp (.lst [.ref k0.p, .ref k1.p])
  exact k k0 k1 F B0 Dn _ _ _ (st3.set i (r := isa ([⟨k0.p⟩, ⟨k1.p⟩] : List Rf)) (v := .ref p) ⟨p, _, rfl, upd_same, rfl, rfl, trivial⟩) hn hr hx
end
/-! ### a method that answers with a new list -/
section
variable {C C1 C2 : Ct} {ta : TE} {t : TA} {E : XK} {fs : Fs} {K : Fg} {D : Addr}
theorem own_other {F B0 : Hp} {C : Ct} {B : Hp} {σ : L2.St} {H : Hp} (st : STB F B0 C B σ H) {B1 H1 : Hp} {A I O Z : List Cell} (hC : C.o = A ++ (I ++ Z)) (p : Post B H I B1 H1 O) {B' : Hp} (e : Same B B') : ∀ c, (c ∈ A ∨ c ∈ Z) → c.P B' H1 := fun c hc => by
  have own := st.own
  rw [hC] at own
  obtain ⟨o1, o2⟩ := own_iff.mp own
  have e2 : (A ++ (I ++ Z)).map (·.as) = A.map (·.as) ++ (I.map (·.as) ++ Z.map (·.as)) := by simp only [List.map_append]
  rw [e2, List.pairwise_append, List.pairwise_append] at o2
  obtain ⟨_, ⟨_, _, q2⟩, q1⟩ := o2
  have hm : c ∈ A ++ (I ++ Z) := by
    rcases hc with h | h
    · simp [h]
    · simp [h]
  have c2 := (o1 c hm).2
  have hth := c.th c2
  refine c.mono e (c.loc (fun a ha => ?_) c2)
  cases e3 : H a with
  | none => exact absurd e3 (hth a ha)
  | some o =>
    refine p.k a o e3 fun d hd had => ?_
    rcases hc with hc | hc
    · exact q1 _ (List.mem_map_of_mem hc) _ (List.mem_append_left _ (List.mem_map_of_mem hd)) a ha had
    · exact q2 _ (List.mem_map_of_mem hd) _ (List.mem_map_of_mem hc) a had ha
theorem new_of {α : Type} [Rp α] [HF α] {r : List α} {F B0 : Hp} {C1 : Ct} {B1 H1 B2 H2 : Hp} {σ : L2.St} {A I Z : List Cell} (st1 : STB F B0 C1 B1 σ H1) (hC : C1.o = A ++ (I ++ Z)) (p : Post B1 H1 I B2 H2 I) (hf : ∀ c ∈ I, ∀ B B' H : Hp, c.P B H → c.P B' H) {v : V} (h : (nuS r B1).P B2 v) {Q : VK}
    (q : ∀ p B' H', Same B1 B' → STB F B0 ⟨C1.g, lstC p r :: C1.o⟩ B' σ H' → Q (.ref p) H') : Q v H2 := by
  have st2 : STB F B0 ⟨C1.g, C1.o⟩ B2 σ H2 := by
    have := st1.calledN hC rfl p
    rwa [← hC] at this
  obtain ⟨z, ws, rfl, h2, h3, h4⟩ := h
  have hnI : ∀ c ∈ C1.o, z ∉ c.as := fun c hc hz => by
    have := ((st2.own.mem hc).1 z hz).2
    rw [this] at h2; cases h2
  have hz : H1 z = none := by
    rcases p.n z (by rw [h2]; simp) with y | y | ⟨c, hc, ha⟩
    · exact absurd h4 y
    · exact y
    · exact absurd ha (hnI c (by rw [hC]; simp [hc]))
  have e2 : Same B1 (wo B2 z) := fun a o h => by
    unfold wo
    rw [if_neg fun y => by rw [y, h4] at h; cases h]
    exact p.b a o h
  refine q z (wo B2 z) H2 e2 ⟨st2.fr, wo_same.trans st2.bh, st1.b0.trans e2, fun a ha => st2.nw a fun y => ha (wo_none y), st1.env.mono e2, ?_⟩
  refine ⟨fun a ha => ?_, ⟨ws, p.h _ _ h2, h3.imp fun _ _ y => HF.hf y⟩, fun d hd a ha => ?_, own_iff.mpr ⟨fun c hc => ?_, (own_iff.mp st2.own).2⟩⟩
  · have ha : a = z := by simpa [lstC] using ha
    subst ha
    exact ⟨st1.fr.free hz, by simp [wo]⟩
  · have ha : a = z := by simpa [lstC] using ha
    subst ha
    exact hnI d hd
  · have hc2 := (own_iff.mp st2.own).1 c hc
    refine ⟨fun a ha => ⟨(hc2.1 a ha).1, wo_none (hc2.1 a ha).2⟩, ?_⟩
    have hc : c ∈ A ++ (I ++ Z) := hC ▸ hc
    rcases List.mem_append.mp hc with h | h
    · exact own_other st1 hC p e2 c (.inl h)
    · rcases List.mem_append.mp h with h | h
      · exact hf c h _ _ _ hc2.2
      · exact own_other st1 hC p e2 c (.inr h)
theorem kpC_hf {D : Addr} {k : Kp} {s : Tx × List Int} : ∀ c ∈ [kpC D k s], ∀ B B' H : Hp, c.P B H → c.P B' H := fun c hc B B' H h => by
  have hc : c = kpC D k s := by simpa using hc
  subst hc
  obtain ⟨h1, ⟨vs, h2, h3⟩, h4⟩ := h
  exact ⟨h1, ⟨vs, h2, h3.imp fun _ _ q => HF.hf q⟩, h4⟩
/-- o.m(..) of a keeper: a new list -/
theorem n_methK {α : Type} [Rp α] [HF α] {xs : List α} {m : Str} {k : Kp} {s : Tx × List Int} (j : Nat) (a : fs.A) (hp : fs.pre a) {r : fs.R} (ho : XE C ta (isr k.p) C1) {Rs : List Sl} (ha : XA C1 t Rs C2) (hRs : fs.Rs a = isr k.p :: Rs := by rfl) (hl : (kfl k s).lookup m = none := by rfl) (hm : fs.m a = .rt r := by rfl)
    (hI : fs.I a = [kpC D k s] := by rfl) (hoc : (fs.sg a).oc r = [kpC D k s] := by rfl) (hji : C1.o[j]? = some (kpC D k s) := by rfl) (hj : C2.o = C2.o.take j ++ ([kpC D k s] ++ C2.o.drop (j + 1)) := by rfl)
    (hV : ∀ (B0 B : Hp) v, ((fs.sg a).vr r B0).P B v → (nuS xs B0).P B v := by exact fun _ _ _ h => h) :
    XN C (tMeth D m fs.sp [] E ta t) (fun q => lstC q xs) C2 := fun F B0 σ B H Q st q => ho F B0 σ B H _ st fun v B1 H1 rv e1 st1 => by
  have rv' : v = .ref k.p := rv
  subst rv'
  obtain ⟨⟨h1, h2⟩, _⟩ := (st1.own.at hji).2
  refine ⟨k.p, k.dx, kfl k s, rfl, h1, hl, ha F B0 σ B1 H1 _ st1 fun vs B2 H2 rvs e2 st2 => ?_⟩
  rw [List.append_nil]
  refine ⟨a, hp, B2, st2.bh, by rw [hRs]; exact ⟨_, _, rfl, rfl, rvs⟩, by rw [hI]; exact ownN (hj ▸ st2.own), fun r' e v B3 H3 p q2 => ?_, fun x e => ?_⟩
  · rw [hm] at e; cases e
    rw [hI, hoc] at p
    exact new_of st2 hj p kpC_hf (hV B2 B3 v q2) fun p' B' H' e' st' => q p' B' H' ((e1.trans e2).trans e') st'
  · rw [hm] at e; cases e
end
end Fw

namespace Fw
open PySem PySem.Spec L2
open PySem.W (Datum DatumOrd Holds HoldAll SomeDatum)

/-! ### min(texts, default=None) -/
def tMinD (te : TE) : TE := fun σ H Q => te σ H fun x H1 => ∃ (p : Addr) (ts : List Str), x = .ref p ∧ H1 p = some (.lst (ts.map V.str)) ∧ (ts = [] → Q .non H1) ∧ ∀ t r, ts = t :: r → Q (.str (PySem.W.minOf t r)) H1
theorem holdStrs {h : Heap} : ∀ {ts : List Str} {us : List Value}, Vals (ts.map V.str) us → HoldAll h us ts
  | [], _, .nil => HoldAll.nil
  | t :: ts, _, .cons r q => HoldAll.cons (by obtain ⟨g, rfl⟩ := r; exact ⟨_, PySem.Reads.str _ _⟩) (holdStrs q)
theorem depth_ok {X : Cx} {k : Nat} (hr : Room k X.A) : X.A.units + 1 + Datum.depth Str < cLine := by
  have := hr.un
  have h : Datum.depth Str ≤ 60 := by decide
  omega
section
variable {X : Cx} {k : Nat} {e : Expr} {te : TE} {p pos kp kp2 : Pos} {j : Nat}
theorem k_minD (hc : X.calm = true) (hr : Room k X.A) (hm : X.mg "min" = none) (he : PE X e te) (hg : Gl X "min" := by rfl) (hs : starEach [e] X.env = (false, eval e X.env) :: starEach [] X.env := by rfl) :
    PE X (.Call (.Name "min" p) [e] [⟨some "default", .Constant .none j kp2, kp⟩] pos) (tMinD te) := by
  refine ⟨fun pins s σ H Q I h => ?_⟩
  refine wpAny_Call_Name_kw (ld_blt I hg hm bt_min ?_ (by decide) (by decide))
  refine PyProof.Rows.callWith_kw ?_ (by rw [hs]; rfl) (by rw [hs]; rfl) (by rfl) (by rfl)
  refine thn ((pa_cons he pa_nil hs).run pos pins s σ H (fun vs H1 => match vs with
    | [x] => ∃ (p : Addr) (ts : List Str), x = .ref p ∧ H1 p = some (.lst (ts.map V.str)) ∧ (ts = [] → Q .non H1) ∧ ∀ t r, ts = t :: r → Q (.str (PySem.W.minOf t r)) H1
    | _ => False) I h) fun us s1 ⟨vs, H1, I1, r1, q1⟩ => ?_
  match vs, q1 with
  | [x], ⟨p, ts, ex, hp, q0, q2⟩ =>
    subst ex
    obtain ⟨u, rfl, ru⟩ := r1.one
    cases ru
    refine PyProof.Rows.kws_cons ?_
    show wpAny _ _ (pure Value.none) _ _ _
    refine wpAny_pure (PyProof.Rows.kws_nil ?_)
    obtain ⟨its, rv, hl, _⟩ := Inv.isList I1 hp
    refine PySem.W.min_list_datum_default (I1.ok.hd hc) hl (holdStrs rv) (depth_ok hr) (fun e h' tk hk => ⟨.non, H1, I1.kept hk, rfl, q0 e⟩) fun y ys i v h' tk e hi hv hk => ?_
    refine ⟨.str (PySem.W.minOf y ys), H1, I1.kept hk, ?_, q2 y ys e⟩
    obtain ⟨as, ra⟩ := hv
    cases ra
    exact ⟨_, rfl⟩
end
/-- the least of texts, or none -/
def minT : List Tx → Option Tx
  | [] => none
  | y :: ys => some (PySem.W.minOf (S y) (ys.map S)).cps.toList
theorem x_minD {C C1 : Ct} {ta : TE} {ls : List Tx} (h : XE C ta (isa ls) C1) : XE C (tMinD ta) (isa (minT ls)) C1 := fun F B0 σ B H Q st q => h F B0 σ B H _ st fun v B1 H1 rv e1 st1 => by
  obtain ⟨p, vs, rfl, hp, hv⟩ := rv
  refine ⟨p, ls.map S, rfl, strs_of hv ▸ st1.bh _ _ hp, fun e => ?_, fun t r e => ?_⟩
  · have e : ls = [] := List.map_eq_nil_iff.mp e
    subst e
    exact q _ B1 H1 rfl e1 st1
  · cases ls with
    | nil => cases e
    | cons y ys =>
      rw [List.map_cons] at e
      injection e with e1' e2'
      subst e1'; subst e2'
      have hq : (isa (minT (y :: ys))).P B1 (.str (PySem.W.minOf (S y) (ys.map S))) := by
        refine ⟨fun z => (by cases z), ?_⟩
        show V.str _ = V.str (S _)
        rw [S_of]
      exact q _ B1 H1 hq e1 st1
theorem minT_none {l : List Tx} : (minT l).isNone = decide (l = []) := by cases l <;> rfl
/-! ### three owned things are changed by one call -/
section
variable {C C1 : Ct} {ta : TA} {R : Sl} {E : XK} {fs : Fs}
theorem x_call3 (i : Nat) (out : List Cell) (j2 j3 : Nat) (a : fs.A) (hp : fs.pre a) {r : fs.R} {c d e c' d' e' : Cell} (ha : XA C ta (fs.Rs a) C1) (hm : fs.m a = .rt r := by rfl) (hI : fs.I a = [c, d, e] := by rfl) (ho : (fs.sg a).oc r = [c', d', e'] := by rfl)
    (hi : C1.o[i]? = some c := by rfl) (hj : (C1.o.eraseIdx i)[j2]? = some d := by rfl) (hk : ((C1.o.eraseIdx i).eraseIdx j2)[j3]? = some e := by rfl) (hi' : out[i]? = some c' := by rfl) (hj' : (out.eraseIdx i)[j2]? = some d' := by rfl) (hk' : ((out.eraseIdx i).eraseIdx j2)[j3]? = some e' := by rfl)
    (hr : ((out.eraseIdx i).eraseIdx j2).eraseIdx j3 = ((C1.o.eraseIdx i).eraseIdx j2).eraseIdx j3 := by rfl) (h1 : c'.as = c.as := by rfl) (h2 : d'.as = d.as := by rfl) (h3 : e'.as = e.as := by rfl)
    (hV : ∀ (B0 B : Hp) v, ((fs.sg a).vr r B0).P B v → R.P B v := by exact fun _ _ _ h => h) :
    XE C (tCall fs.sp [] E ta) R ⟨C1.g, out⟩ :=
  x_callP a hp (rest := ((C1.o.eraseIdx i).eraseIdx j2).eraseIdx j3) ha (by rw [hI]; exact (perm_at hi).trans (((perm_at hj).trans ((perm_at hk).cons d)).cons c)) (by rw [ho, ← hr]; exact ((perm_at hi').trans (((perm_at hj').trans ((perm_at hk').cons d')).cons c')).symm) hm (by rw [ho, hI]; simp [h1, h2, h3]) hV
end
/-! ### p.pop(), its value -/
theorem x_pop {C C1 : Ct} {ta : TE} {K : Fg} {α : Type} [Rp α] [Inhabited α] {xs : List α} {p : Addr} (j : Nat) (ha : XE C ta (isr p) C1) (hz : xs ≠ []) (hj : C1.o[j]? = some (lstC p xs) := by rfl) : XE C (tBM0 K "list" rPop ta) (isa (ixI xs (-1))) ⟨C1.g, C1.o.set j (lstC p xs.dropLast)⟩ := fun F B0 σ B H Q st q => ha F B0 σ B H _ st fun v B1 H1 rv e1 st1 => by
  have rv' : v = .ref p := rv
  subst rv'
  obtain ⟨vs, hp, hv⟩ := (st1.own.at hj).2
  have hlen := hv.len
  have hpos : 0 < xs.length := List.length_pos_iff.mpr hz
  have hi : vs.length - 1 < vs.length := by omega
  refine ⟨.inl ⟨rfl, vs, SqL.of hp⟩, p, vs, vs[vs.length - 1], rfl, rfl, hp, List.getElem?_eq_getElem hi, ?_⟩
  have hd : All2 (Rp.is B1) vs.dropLast xs.dropLast := by
    rw [List.dropLast_eq_take, List.dropLast_eq_take, hlen]
    exact hv.take _
  obtain ⟨a, ha1, ha2⟩ := hv.get' (List.getElem?_eq_getElem hi)
  have ea : ixI xs (-1) = a := by
    unfold ixI atI ixN
    rw [if_neg (by omega), if_pos (by omega)]
    show (xs[(-1 + (xs.length : Int)).toNat]?).getD default = a
    have : (-1 + (xs.length : Int)).toNat = vs.length - 1 := by omega
    rw [this, ha1]; rfl
  refine q _ B1 _ (show Rp.is B1 _ (ixI xs (-1)) by rw [ea]; exact ha2) e1 (st1.upd (c' := lstC p xs.dropLast) hj rfl (fun a ha => upd_ne fun z => ha (by simp [lstC, z])) ⟨_, upd_same, hd⟩)
/-! ### a walk over an owned dict -/
def isK {κ β : Type} [Ky κ] [Rp β] (p : Addr) (od : Obj) (vs : List (Key × V)) (d : List (κ × β)) : Sl := ⟨fun B v => v = .ref p ∧ B p = some (.frz od (.dK vs)) ∧ kvAll B vs d, fun e ⟨h1, h2, h3⟩ => ⟨h1, e _ _ h2, h3.imp fun _ _ q => ⟨q.1, Rp.mono e q.2⟩⟩⟩
theorem i_keys {κ β : Type} [Ky κ] [Rp β] {C C1 : Ct} {te : TE} {p : Addr} {od : Obj} {vs : List (Key × V)} {d : List (κ × β)} (h : XE C te (isK p od vs d) C1) : XI C (iKeys te) (d.map (·.1)) C1 := fun F B0 σ B H R st q => h F B0 σ B H _ st fun v B1 H1 rv e1 st1 => by
  obtain ⟨rfl, hp, hv⟩ := rv
  have w := walk_keys (d := p) (o := od) (kvs := vs)
  rw [hv.len, ← List.length_map (f := fun q : κ × β => q.1)] at w
  refine ⟨p, od, rfl, .inl ⟨vs, st1.bh _ _ hp, q _ _ _ B1 H1 e1 st1 w (fun H2 e => e _ _ hp) fun i H2 B2 v H3 hi y e2 e3 => ?_⟩⟩
  obtain ⟨y1, k, w, y2, y3⟩ := y
  obtain ⟨x, hx, r⟩ := hv.get' y2
  refine ⟨x.1, by rw [List.getElem?_map, hx]; rfl, .inl ⟨y1, ?_⟩⟩
  rw [y3]
  exact Ky.isk.mpr (congrArg kV r.1)
theorem own_ne {F B H : Hp} {cs : List Cell} {i j : Nat} {c d : Cell} (h : Own F B H cs) (hi : cs[i]? = some c) (hj : cs[j]? = some d) (hn : i ≠ j) {a : Addr} (ha : a ∈ c.as) : a ∉ d.as := by
  have pw := (own_iff.mp h).2
  obtain ⟨hi1, hi2⟩ := List.getElem?_eq_some_iff.mp hi
  obtain ⟨hj1, hj2⟩ := List.getElem?_eq_some_iff.mp hj
  rw [List.pairwise_iff_getElem] at pw
  rcases Nat.lt_or_gt_of_ne hn with h | h
  · have := pw i j (by simpa using hi1) (by simpa using hj1) h
    simp only [List.getElem_map, hi2, hj2] at this
    exact this a ha
  · have := pw j i (by simpa using hj1) (by simpa using hi1) h
    simp only [List.getElem_map, hi2, hj2] at this
    exact fun z => this a z ha
theorem x_lockV {κ β κ2 β2 α : Type} [Ky κ] [Rp β] [Ky κ2] [Rp β2] [Rp α] [HF α] {C : Ct} {C2 : Obj → List (Key × V) → Ct} {te : TE} {p p2 : Addr} {d : List (κ × β)} {d2 : List (κ2 × β2)} {y : α} (i i2 j j2 : Nat)
    (inner : ∀ od vs, XE ⟨(C.g.set i (some (isK p od vs d))).set i2 (some (isa (Dc.mk d2))), []⟩ te (isa y) (C2 od vs)) (hn : j ≠ j2 := by decide)
    (hi : C.g[i]? = some (some (isr p)) := by rfl) (hi2 : C.g[i2]? = some (some (isr p2)) := by rfl) (hj : C.o[j]? = some (dicC p d) := by rfl) (hj2 : C.o[j2]? = some (dicC p2 d2) := by rfl) : XE C (tLockE te) (isa y) C := fun F B0 σ B H Q st q => by
  obtain ⟨hpf, vs, hp, hv⟩ := st.own.at hj
  obtain ⟨hpf2, vs2, hp2, hv2⟩ := st.own.at hj2
  have hne : p2 ≠ p := fun z => own_ne st.own hj hj2 hn (a := p) (by simp [dicC]) (by simp [dicC, z])
  have hB : B p = none := (hpf p (by simp [dicC])).2
  have hB2 : B p2 = none := (hpf2 p2 (by simp [dicC])).2
  refine ⟨p, .dK vs, hp, trivial, fun od => ?_⟩
  have eB : Same B (upd (upd B p2 (.dK vs2)) p (.frz od (.dK vs))) := fun a o h => by
    have n1 : a ≠ p := fun z => by rw [z, hB] at h; cases h
    have n2 : a ≠ p2 := fun z => by rw [z, hB2] at h; cases h
    rw [upd_ne n1, upd_ne n2]; exact h
  have eH : Same (upd (upd B p2 (.dK vs2)) p (.frz od (.dK vs))) (upd H p (.frz od (.dK vs))) := fun a o h => by
    by_cases n1 : a = p
    · subst n1; rw [upd_same] at h ⊢; exact h
    · rw [upd_ne n1] at h ⊢
      by_cases n2 : a = p2
      · subst n2; rw [upd_same] at h; rw [hp2]; exact h
      · rw [upd_ne n2] at h; exact st.bh _ _ h
  obtain ⟨v, hv1, hv3⟩ := st.env.get hi
  obtain ⟨w, hw1, hw3⟩ := st.env.get hi2
  have hv4 : v = .ref p := hv3
  have hw4 : w = .ref p2 := hw3
  subst hv4; subst hw4
  have set_self : ∀ {σ : L2.St} {i : Nat} {x : Option V}, σ[i]? = some x → σ.set i x = σ := fun {σ i x} h => by
    obtain ⟨h1, h2⟩ := List.getElem?_eq_some_iff.mp h
    rw [← h2, List.set_getElem_self]
  have env : Env ((C.g.set i (some (isK p od vs d))).set i2 (some (isa (Dc.mk d2)))) (upd (upd B p2 (.dK vs2)) p (.frz od (.dK vs))) σ := by
    have e1 := Env.set (o := some (isK p od vs d)) (x := some (.ref p)) (fun s e => by
      cases e
      exact ⟨_, rfl, rfl, upd_same, hv.imp fun _ _ q => ⟨q.1, Rp.mono eB q.2⟩⟩) i (st.env.mono eB)
    rw [set_self hv1] at e1
    have e2 := Env.set (o := some (isa (Dc.mk d2))) (x := some (.ref p2)) (fun s e => by
      cases e
      exact ⟨_, rfl, p2, vs2, rfl, by rw [upd_ne hne, upd_same], hv2.imp fun _ _ q => ⟨q.1, Rp.mono eB q.2⟩⟩) i2 e1
    rw [set_self hw1] at e2
    exact e2
  refine inner od vs (upd H p (.frz od (.dK vs))) _ σ _ _ _ ⟨Same.refl _, eH, Same.refl _, fun a h => .inl h, env, trivial⟩ fun v B' H' rv e st2 => ?_
  refine ⟨st2.fr p _ upd_same, q v B _ (HF.hf rv) (Same.refl B) (st.grow fun a o h => ?_)⟩
  by_cases n : a = p
  · subst n; rw [hp] at h; rw [upd_same]; exact h
  · rw [upd_ne n]; exact st2.fr a o (by rw [upd_ne n]; exact h)
/-! ### more of lists -/
section
variable {C C1 C2 : Ct} {ta tb te : TE} {K : Fg} {α : Type} [Rp α]
theorem x_cat {xs ys : List α} (ha : XE C ta (isa xs) C1) (hb : XE C1 tb (isa ys) C2) (hz : xs.length + ys.length ≤ 16777216) : XE C (tOp rCat ta tb) (isa (xs ++ ys)) C2 :=
  xe_op ha hb fun F B0 σ B H v w Q st rx ry q => by
    obtain ⟨p, vs, rfl, hp, hv⟩ := rx
    obtain ⟨p2, ws, rfl, hp2, hw⟩ := ry
    refine ⟨p, p2, vs, ws, rfl, rfl, st.bh _ _ hp, st.bh _ _ hp2, by rw [hv.len, hw.len, sizeLine_eq]; exact hz, fun l hl => ?_⟩
    have e := same_new (o := .lst (vs ++ ws)) (st.bh.free hl)
    exact q _ _ _ ⟨l, _, rfl, upd_same, (hv.app hw).imp fun _ _ z => Rp.mono e z⟩ e (st.new hl _)
/-- a slice of an owned list -/
theorem x_slO {xs : List α} {p : Addr} {tl th : TO} {lo hi : Option Int} (j : Nat) (ha : XE C ta (isr p) C) (hl : XO C tl lo C) (hh : XO C th hi C) (hj : C.o[j]? = some (lstC p xs) := by rfl) : XE C (tSl (rSlL K) ta tl th) (isa (cut xs lo hi)) C := fun F B0 σ B H Q st q =>
  ha F B0 σ B H _ st fun v B1 H1 rv e1 st1 => hl F B0 σ B1 H1 _ st1 fun B2 H2 e2 st2 => hh F B0 σ B2 H2 _ st2 fun B3 H3 e3 st3 => by
    have rv' : v = .ref p := rv
    subst rv'
    obtain ⟨vs, hp3, hv⟩ := (st3.own.at hj).2
    refine ⟨p, vs, rfl, SqL.of hp3, fun l hl => ?_⟩
    have e := same_new (o := .lst (cutV vs lo hi)) (st3.bh.free hl)
    refine q _ _ _ ⟨l, _, rfl, upd_same, ?_⟩ (((e1.trans e2).trans e3).trans e) (st3.new hl _)
    have h1 : All2 (Rp.is B3) (cutV vs lo hi) (cut xs lo hi) := by
      unfold cutV cut; rw [hv.len]; exact (hv.drop _).take _
    exact h1.imp fun _ _ z => Rp.mono e z
end
section
variable {S R X : Type} {T : Tm R X} {C C1 : Ct} {u : TS} {te : TE} {CS : S → Ct}
theorem b_asgTV {α : Type} [Rp α] {x : α} {g : TG} {up : α → List (Option Sl) → List (Option Sl)} {is : List Nat} {f : α → Ctl S R X} (h : XE C te (isa x) C1) (hg : XG g up is) (k : ∀ y, y = x → XB T ⟨up y C1.g, C1.o⟩ u (f y) CS) : XB T C (tSeq (tAsg te g) u) (letC x f) CS := b_asgT h hg (k x rfl)
end
/-- if a or b: (something that does not fall through); rest -/
theorem b_gOr {S R X : Type} {T : Tm R X} {C C1 : Ct} {t u : TT} {w rest : TS} {a : Bool} {o1 : Ctl Empty R X} {o : Ctl S R X} {CE : Empty → Ct} {CS : S → Ct} (h : XT C t a C1) (h1 : a = true → XB T C1 w o1 CE) (h2 : a = false → XB T C1 (tSeq (tIfS u w tNext) rest) o CS) :
    XB T C (tSeq (tIfS (tOr t u) w tNext) rest) (if a = true then (o1.lift : Ctl S R X) else o) CS := fun F B0 D σ B H st hn hr hx =>
  h F B0 σ B H _ st fun B1 H1 e1 st1 => by
    cases a with
    | true =>
      show w _ σ H1
      exact h1 rfl F B0 { D with nx := rest D } σ B1 H1 st1 (fun s => s.elim) (fun r e => hr r (by rw [e]; rfl)) (fun x e => hx x (by rw [e]; rfl))
    | false => exact h2 rfl F B0 D σ B1 H1 st1 hn hr hx
end Fw

namespace Fw
open PySem PySem.Spec L2

theorem or_false1 {a b : Bool} (h : (a || b) = false) : a = false := (Bool.or_eq_false_iff.mp h).1
theorem isSome_nn {α : Type} {o : Option α} (h : o.isSome = true) : o.isNone = false := by cases o with
  | none => cases h
  | some _ => rfl
/-! ### cut, any, in plain terms -/
theorem sIx_nat (n d a : Nat) : HT.sIx n d (some (a : Int)) = min a n := HT.sIx_nat n d a
theorem cut_nn {β : Type} (xs : List β) (a b : Nat) : cut xs (some (a : Int)) (some (b : Int)) = (xs.drop a).take (b - a) := by
  unfold cut
  rw [sIx_nat, sIx_nat]
  apply List.ext_getElem?
  intro i
  simp only [List.getElem?_take, List.getElem?_drop]
  by_cases h : a + i < xs.length
  · have e1 : min a xs.length + i = a + i := by omega
    rw [e1]
    by_cases h2 : i < b - a
    · rw [if_pos h2, if_pos (by omega)]
    · rw [if_neg h2, if_neg (by omega)]
  · have e : xs[a + i]? = none := List.getElem?_eq_none (by omega)
    rw [e]
    by_cases h2 : i < min b xs.length - min a xs.length
    · rw [if_pos h2, List.getElem?_eq_none (by omega)]; split <;> rfl
    · rw [if_neg h2]; split <;> rfl
theorem cut_to {β : Type} (xs : List β) (b : Nat) : cut xs none (some (b : Int)) = xs.take b := by
  unfold cut
  rw [sIx_nat]
  have : HT.sIx xs.length 0 none = 0 := rfl
  rw [this, List.drop_zero, Nat.sub_zero]
  apply List.ext_getElem?
  intro i
  simp only [List.getElem?_take]
  by_cases h : i < b
  · by_cases h2 : i < xs.length
    · rw [if_pos h, if_pos (by omega)]
    · rw [if_pos h, List.getElem?_eq_none (by omega)]; split <;> rfl
  · rw [if_neg h, if_neg (by omega)]
theorem cut_from {β : Type} (xs : List β) (a : Nat) : cut xs (some (a : Int)) none = xs.drop a := by
  unfold cut
  rw [sIx_nat]
  have : HT.sIx xs.length xs.length none = xs.length := rfl
  rw [this]
  apply List.ext_getElem?
  intro i
  simp only [List.getElem?_take, List.getElem?_drop]
  by_cases h : a + i < xs.length
  · rw [if_pos (by omega)]; congr 1; omega
  · rw [List.getElem?_eq_none (l := xs) (i := a + i) (by omega)]
    split
    · rw [List.getElem?_eq_none (by omega)]
    · rfl
theorem cut_m1 {β : Type} (xs : List β) : cut xs none (some (-1)) = xs.dropLast := by
  unfold cut
  have : HT.sIx xs.length 0 none = 0 := rfl
  rw [this, List.drop_zero, Nat.sub_zero, List.dropLast_eq_take]
  congr 1
  show (if (-1 : Int) < 0 then (-1 + (xs.length : Int)).toNat else min (-1 : Int).toNat xs.length) = _
  rw [if_pos (by omega)]; omega
theorem ixS_len (t : Tx) (i : Int) : (ixS t i).length = 1 := rfl
theorem ixI_or2 (a b i : Int) : ixI [a, b] i = a ∨ ixI [a, b] i = b ∨ ixI [a, b] i = 0 := by
  unfold ixI
  cases e : atI [a, b] i with
  | none => exact .inr (.inr rfl)
  | some x =>
    unfold atI at e
    obtain ⟨j, _, hj⟩ := Option.bind_eq_some_iff.mp e
    have := List.mem_of_getElem? hj
    simp at this
    rcases this with h | h
    · exact .inl h
    · exact .inr (.inl h)
theorem cut_fact {t w : Tx} {a b : Int} (h : w = cut t (some a) (some b)) : ¬ (0 ≤ a ∧ a < b ∧ a < (t.length : Int)) ∨ 0 < w.length := by
  by_cases c : 0 ≤ a ∧ a < b ∧ a < (t.length : Int)
  · right
    subst h
    obtain ⟨i, rfl⟩ := Int.eq_ofNat_of_zero_le c.1
    obtain ⟨j, rfl⟩ := Int.eq_ofNat_of_zero_le (show 0 ≤ b by omega)
    rw [cut_nn, List.length_take, List.length_drop]
    omega
  · exact .inl c
theorem lcS_len {α β S : Type} (f : S → α → β × S) : ∀ (xs : List α) (s : S), (lcS xs s f).1.length = xs.length
  | [], _ => rfl
  | x :: xs, s => by show ((lcS xs (f s x).2 f).1).length + 1 = _; rw [lcS_len f xs]; rfl
theorem lcS_flat {α S : Type} (f : S → α → Tx × S) (n : Nat) (h : ∀ s x, (f s x).1.length ≤ n) : ∀ (xs : List α) (s : S), (lcS xs s f).1.flatten.length ≤ n * xs.length
  | [], _ => Nat.zero_le _
  | x :: xs, s => by
    show ((f s x).1 ++ (lcS xs (f s x).2 f).1.flatten).length ≤ _
    rw [List.length_append, List.length_cons, Nat.mul_succ]
    have := lcS_flat f n h xs (f s x).2
    have := h s x
    omega
theorem lcS_flat_pos {α S : Type} (f : S → α → Tx × S) (h : ∀ s x, 1 ≤ (f s x).1.length) : ∀ (xs : List α) (s : S), 0 < xs.length → 0 < (lcS xs s f).1.flatten.length
  | [], _, h0 => absurd h0 (Nat.lt_irrefl 0)
  | x :: xs, s, _ => by
    show 0 < ((f s x).1 ++ (lcS xs (f s x).2 f).1.flatten).length
    rw [List.length_append]
    have := h s x
    omega
theorem irange_zero (n : Nat) : irange 0 (n : Int) = (List.range n).map fun (i : Nat) => (i : Int) := by
  unfold irange
  rw [Int.sub_zero, Int.toNat_natCast]
  exact List.map_congr_left fun x _ => by omega
theorem any_irange (n : Nat) (f : Int → Bool) : (List.map f (irange 0 (n : Int))).any id = (List.range n).any fun q => f (q : Int) := by
  rw [irange_zero, List.map_map, List.any_map]; rfl

/-! ### what an outcome fulfils -/
namespace Ctl
variable {S S' R X : Type}
def ok (o : Ctl S R X) (q : S → Prop) (p : R → Prop) : Prop := match o with
  | .nx s => q s
  | .rt r => p r
  | .rs _ => True
theorem nx_ok {o : Ctl S R X} (q : S → Prop) {s : S} (e : o = .nx s) (h : o.ok q (fun _ => True)) : q s := by rw [e] at h; exact h
theorem nx_of_ok {o : Ctl S R X} {q : S → Prop} {p : R → Prop} {s : S} (h : o.ok q p) (e : o = .nx s) : q s := by rw [e] at h; exact h
theorem ok_bind {o : Ctl S R X} {f : S → Ctl S' R X} {q : S' → Prop} {p : R → Prop} (q' : S → Prop) (h : o.ok q' p) (k : ∀ s, q' s → (f s).ok q p) : (o.bind f).ok q p := by
  cases o with
  | nx s => exact k s h
  | rt r => exact h
  | rs x => trivial
theorem ok_let {α : Type} {x : α} {f : α → Ctl S R X} {q : S → Prop} {p : R → Prop} (h : ∀ y, y = x → (f y).ok q p) : (letC x f).ok q p := h x rfl
theorem ok_if {c : Bool} {a b : Ctl S R X} {q : S → Prop} {p : R → Prop} (h1 : c = true → a.ok q p) (h2 : c = false → b.ok q p) : (if c = true then a else b).ok q p := by
  cases c with
  | true => exact h1 rfl
  | false => exact h2 rfl
theorem ok_lift {o : Ctl Empty R X} {q : S → Prop} {p : R → Prop} (h : o.ok (fun _ => True) p) : (o.lift : Ctl S R X).ok q p := by
  cases o with
  | nx s => exact s.elim
  | rt r => exact h
  | rs x => trivial
theorem ok_nx {s : S} {q : S → Prop} {p : R → Prop} (h : q s) : (.nx s : Ctl S R X).ok q p := h
theorem ok_rt {r : R} {q : S → Prop} {p : R → Prop} (h : p r) : (.rt r : Ctl S R X).ok q p := h
theorem ok_out {o : Ctl Empty R Empty} {p : R → Prop} (h : o.ok (fun _ => True) p) : p (o.out Empty.elim) := by
  cases o with
  | nx s => exact s.elim
  | rt r => exact h
  | rs x => exact x.elim
theorem ok_for {α : Type} {f : S → α → Ctl S R X} {q : S → Prop} {p : R → Prop} (I : Nat → S → Prop) : ∀ {xs : List α} {s0 : S} {k : Nat}, I k s0 → (∀ n x s, xs[n]? = some x → I (k + n) s → (f s x).ok (I (k + n + 1)) p) → (∀ s, I (k + xs.length) s → q s) → (forC xs s0 f).ok q p
  | [], s0, k, h0, _, hq => hq s0 h0
  | x :: xs, s0, k, h0, hs, hq => by
    show ((f s0 x).bind fun s' => forC xs s' f).ok q p
    refine ok_bind (I (k + 1)) (hs 0 x s0 rfl h0) fun s hI => ?_
    refine ok_for I (k := k + 1) hI (fun n y t hy ht => ?_) fun t ht => hq t ?_
    · have e : k + 1 + n = k + (n + 1) := by omega
      rw [e] at ht ⊢
      exact hs (n + 1) y t (by simpa using hy) ht
    · have e : k + (x :: xs).length = k + 1 + xs.length := by rw [List.length_cons]; omega
      rw [e]; exact ht
theorem ok_for0 {α : Type} {f : S → α → Ctl S R X} {q : S → Prop} {p : R → Prop} (I : Nat → S → Prop) {xs : List α} {s0 : S} (h0 : I 0 s0) (hs : ∀ n x s, xs[n]? = some x → I n s → (f s x).ok (I (n + 1)) p) (hq : ∀ s, I xs.length s → q s) : (forC xs s0 f).ok q p :=
  ok_for I (k := 0) h0 (fun n x s hx hI => by rw [Nat.zero_add] at hI ⊢; exact hs n x s hx hI) fun s h => hq s (by rwa [Nat.zero_add] at h)
theorem ok_while {c : S → Bool} {f : S → Ctl S R X} {q : S → Prop} {p : R → Prop} (I : S → Prop) (m : S → Nat) (hs : ∀ s, I s → c s = true → (f s).ok (fun s' => I s' ∧ m s' < m s) p) (hq : ∀ s, I s → c s = false → q s) : ∀ (n : Nat) (s : S), I s → m s < n → (whileC c f n s).ok q p
  | 0, s, _, h => absurd h (Nat.not_lt_zero _)
  | n + 1, s, hI, h => by
    show (if c s = true then (f s).bind (whileC c f n) else .nx s).ok q p
    refine ok_if (fun hc => ?_) fun hc => ok_nx (hq s hI hc)
    exact ok_bind _ (hs s hI hc) fun s' hs' => ok_while I m hs hq n s' hs'.1 (by have := hs'.2; omega)
end Ctl

/-! ### the first cutting -/
/-- whether what begins at b stands earlier in the row -/
def earlier (row : Tx) (b : Nat) : Bool := (List.range b).any fun q => decide ((row.drop q).take (row.length - b) = row.drop b)
def cstep (s : Tx × List Int × Nat) (c : Nat) : Tx × List Int × Nat :=
  let r := s.1 ++ [c]
  if earlier r s.2.2 = true then (r, s.2.1, s.2.2) else (r, s.2.1 ++ [(s.1.length : Int)], r.length)
def cut3 (row : Tx) : Tx × List Int × Nat := row.foldl cstep ([], [], 0)
def cuts (row : Tx) : List Int := (cut3 row).2.1
def beg (row : Tx) : Nat := (cut3 row).2.2
theorem cut3_snoc (row : Tx) (c : Nat) : cut3 (row ++ [c]) = cstep (cut3 row) c := by unfold cut3; rw [List.foldl_append]; rfl
theorem snocI {p : Tx → Prop} (h0 : p []) (hs : ∀ r c, p r → p (r ++ [c])) (r : Tx) : p r := by
  have key : ∀ n, ∀ r : Tx, r.length = n → p r := by
    intro n
    induction n with
    | zero => intro r h; rw [List.length_eq_zero_iff.mp h]; exact h0
    | succ n ih =>
      intro r h
      have hne : r ≠ [] := fun e => by rw [e] at h; simp at h
      rw [← List.dropLast_concat_getLast hne]
      exact hs _ _ (ih _ (by rw [List.length_dropLast]; omega))
  exact key _ r rfl
theorem cut3_row (row : Tx) : (cut3 row).1 = row := by
  refine snocI (p := fun row => (cut3 row).1 = row) rfl (fun r c ih => ?_) row
  show (cut3 (r ++ [c])).1 = _
  rw [cut3_snoc]
  unfold cstep
  simp only
  split <;> rw [ih]
theorem cuts_snoc (row : Tx) (c : Nat) : cuts (row ++ [c]) = if earlier (row ++ [c]) (beg row) = true then cuts row else cuts row ++ [(row.length : Int)] := by
  unfold cuts beg
  rw [cut3_snoc]
  unfold cstep
  rw [cut3_row]
  simp only
  split <;> rfl
theorem beg_snoc (row : Tx) (c : Nat) : beg (row ++ [c]) = if earlier (row ++ [c]) (beg row) = true then beg row else row.length + 1 := by
  unfold beg
  rw [cut3_snoc]
  unfold cstep
  rw [cut3_row]
  simp only
  split
  · rfl
  · simp
theorem cuts_in (row : Tx) : ∀ x ∈ cuts row, 0 ≤ x ∧ x < row.length := by
  refine snocI (p := fun row => ∀ x ∈ cuts row, 0 ≤ x ∧ x < row.length) (fun x h => by cases h) (fun r c ih x h => ?_) row
  rw [cuts_snoc] at h
  rw [List.length_append, List.length_singleton]
  split at h
  · have := ih x h; omega
  · rcases List.mem_append.mp h with h | h
    · have := ih x h; omega
    · have : x = (r.length : Int) := by simpa using h
      omega
theorem cuts_len (row : Tx) : (cuts row).length ≤ row.length := by
  refine snocI (p := fun row => (cuts row).length ≤ row.length) (by decide) (fun r c ih => ?_) row
  rw [cuts_snoc, List.length_append, List.length_singleton]
  split
  · have ih' : (cuts r).length ≤ r.length := ih
    omega
  · have ih' : (cuts r).length ≤ r.length := ih
    rw [List.length_append]; simp; exact ih'
/-- where the last stretch begins -/
theorem beg_last (row : Tx) : (cuts row = [] → beg row = 0) ∧ (cuts row ≠ [] → ∃ l, cuts row = l ++ [(beg row : Int) - 1]) ∧ beg row ≤ row.length := by
  refine snocI (p := fun row => (cuts row = [] → beg row = 0) ∧ (cuts row ≠ [] → ∃ l, cuts row = l ++ [(beg row : Int) - 1]) ∧ beg row ≤ row.length) ⟨fun _ => rfl, fun h => absurd rfl h, Nat.le_refl _⟩ (fun r c ih => ?_) row
  obtain ⟨i1, i2, i3⟩ := ih
  rw [cuts_snoc, beg_snoc, List.length_append, List.length_singleton]
  split
  · exact ⟨i1, i2, by omega⟩
  · refine ⟨fun h => by simp at h, fun _ => ⟨cuts r, ?_⟩, Nat.le_refl _⟩
    congr 2; omega
theorem cuts_ne {row : Tx} (h : row ≠ []) : cuts row ≠ [] := by
  revert h
  refine snocI (p := fun row => row ≠ [] → cuts row ≠ []) (fun h => absurd rfl h) (fun r c ih _ => ?_) row
  rw [cuts_snoc]
  by_cases hr : r = []
  · subst hr
    have : earlier ([] ++ [c]) (beg []) = false := rfl
    rw [this]; simp
  · split
    · exact ih hr
    · simp
theorem ixI_last {α : Type} [Inhabited α] (l : List α) (x : α) : ixI (l ++ [x]) (-1) = x := by
  unfold ixI atI ixN
  rw [if_neg (by omega), if_pos (by simp; omega)]
  have : (-1 + ((l ++ [x]).length : Int)).toNat = l.length := by rw [List.length_append, List.length_singleton]; omega
  rw [this]
  simp
theorem begin_eq (row : Tx) : (if decide (cuts row = []) = true then (0 : Int) else ixI (cuts row) (-1) + 1) = (beg row : Int) := by
  obtain ⟨h1, h2, _⟩ := beg_last row
  by_cases e : cuts row = []
  · rw [if_pos (decide_eq_true e), h1 e]; rfl
  · rw [if_neg (by simp [e])]
    obtain ⟨l, hl⟩ := h2 e
    rw [hl, ixI_last]; omega
/-- the put letter's reading: the mirror's search -/
theorem earlier_eq (row : Tx) (b : Nat) (hb : b ≤ row.length) : ((List.map (fun x => decide (cut row (some x) (some (x + (((cut row (some (b : Int)) (some ((row.length : Nat) : Int))).length : Nat) : Int))) = cut row (some (b : Int)) (some ((row.length : Nat) : Int)))) (irange 0 (b : Int))).any id) = earlier row b := by
  rw [any_irange, cut_nn]
  unfold earlier
  have e : (List.drop b row).take (row.length - b) = row.drop b := List.take_of_length_le (by rw [List.length_drop]; omega)
  rw [e]
  have el : (row.drop b).length = row.length - b := List.length_drop ..
  rw [el]
  have key : ∀ q : Nat, cut row (some (q : Int)) (some ((q : Int) + ((row.length - b : Nat) : Int))) = (row.drop q).take (row.length - b) := fun q => by
    have : (q : Int) + ((row.length - b : Nat) : Int) = ((q + (row.length - b) : Nat) : Int) := by omega
    rw [this, cut_nn]; congr 1; omega
  congr 1
  funext q
  rw [key]
abbrev kst (row : Tx) : Tx × List Int := (row, cuts row)
end Fw

namespace Fw
open PySem PySem.Spec L2
/-- one small letter -/
def isL (l : Tx) : Prop := ∃ c, l = [c] ∧ 97 ≤ c ∧ c ≤ 122
/-- small letters -/
def LowT (t : Tx) : Prop := ∀ c ∈ t, 97 ≤ c ∧ c ≤ 122
theorem low_nil : LowT [] := fun c h => by cases h
theorem LowT_app {a b : Tx} (h : LowT a) (hb : isL b) : LowT (a ++ b) := fun c hc => by
  obtain ⟨d, rfl, h1, h2⟩ := hb
  rcases List.mem_append.mp hc with h3 | h3
  · exact h c h3
  · have : c = d := by simpa using h3
    omega
theorem len_posN {t : Tx} (h : (!decide (t = tx "")) = true) : 0 < t.length := List.length_pos_iff.mpr fun e => by
  have : t = tx "" := e
  simp [this] at h
theorem cut_ne {t : Tx} {a b : Int} (h0 : 0 ≤ a) (h1 : a < b) (h2 : b ≤ t.length) : cut t (some a) (some b) ≠ [] := by
  obtain ⟨i, rfl⟩ := Int.eq_ofNat_of_zero_le h0
  obtain ⟨j, rfl⟩ := Int.eq_ofNat_of_zero_le (show 0 ≤ b by omega)
  rw [cut_nn]
  apply List.length_pos_iff.mp
  rw [List.length_take, List.length_drop]
  omega
theorem ixS_mem {t : Tx} {i : Int} (h : Ib t.length i) : ∃ c ∈ t, ixS t i = [c] := by
  obtain ⟨j, _, x, hx, ha⟩ := atI_some h.1 h.2
  exact ⟨x, List.mem_of_getElem? hx, by unfold ixS; rw [ha]; rfl⟩
theorem abc_low : LowT (tx "abcdefghijklmnopqrstuvwxyz") := by
  have h : (tx "abcdefghijklmnopqrstuvwxyz").all (fun c => decide (97 ≤ c) && decide (c ≤ 122)) = true := by decide +kernel
  intro c hc
  have := List.all_eq_true.mp h c hc
  simpa using this
theorem abc_len : (tx "abcdefghijklmnopqrstuvwxyz").length = 26 := by decide +kernel
theorem abc_L {i : Int} (h0 : 0 ≤ i) (h1 : i < 26) : isL (ixS (tx "abcdefghijklmnopqrstuvwxyz") i) := by
  obtain ⟨c, hc, e⟩ := ixS_mem (t := tx "abcdefghijklmnopqrstuvwxyz") (i := i) (by rw [abc_len]; unfold Ib; omega)
  exact ⟨c, e, abc_low c hc⟩
theorem low_L {t : Tx} (hl : LowT t) {i : Int} (h : Ib t.length i) : isL (ixS t i) := by
  obtain ⟨c, hc, e⟩ := ixS_mem h
  exact ⟨c, e, hl c hc⟩
theorem lcS_all {α β S : Type} {p : β → Prop} (f : S → α → β × S) (h : ∀ s x, p (f s x).1) : ∀ (xs : List α) (s : S), ∀ y ∈ (lcS xs s f).1, p y
  | [], _, y, hy => by cases hy
  | x :: xs, s, y, hy => by
    have hy : y ∈ (f s x).1 :: (lcS xs (f s x).2 f).1 := hy
    rcases List.mem_cons.mp hy with e | e
    · rw [e]; exact h s x
    · exact lcS_all f h xs _ y e
theorem findT_spec (t u : Tx) : (∃ i : Nat, findT t u = (i : Int) ∧ i + u.length ≤ t.length ∧ (t.drop i).take u.length = u ∧ ∀ k : Nat, k < i → (t.drop k).take u.length ≠ u) ∨ (findT t u = -1 ∧ ∀ k : Nat, (t.drop k).take u.length = u → k + u.length > t.length) := by
  unfold findT
  cases e : (List.range (t.length + 1 - u.length)).find? fun i => decide ((t.drop i).take u.length = u) with
  | none =>
    right
    refine ⟨rfl, fun k hk => ?_⟩
    rw [List.find?_eq_none] at e
    apply Classical.byContradiction
    intro hn
    exact e k (List.mem_range.mpr (by omega)) (decide_eq_true hk)
  | some i =>
    left
    rw [List.find?_range_eq_some] at e
    obtain ⟨h1, h2, h3⟩ := e
    have := List.mem_range.mp h2
    exact ⟨i, rfl, by omega, of_decide_eq_true h1, fun k hk he => by
      have := h3 k hk
      simp [he] at this⟩
/-- the stretch from b to p's end is found first at b just where it doesn't stand earlier -/
theorem find_cut {row : Tx} {b p : Nat} (hb : b ≤ p) (hp : p < row.length) : decide (findT row ((row.drop b).take (p + 1 - b)) = (b : Int)) = !earlier (row.take (p + 1)) b := by
  have hl : ((row.drop b).take (p + 1 - b)).length = p + 1 - b := by rw [List.length_take, List.length_drop]; omega
  have hd : (row.take (p + 1)).drop b = (row.drop b).take (p + 1 - b) := by rw [List.drop_take]
  have hlen : (row.take (p + 1)).length = p + 1 := by rw [List.length_take]; omega
  have hq : ∀ q, q ≤ b → ((row.take (p + 1)).drop q).take (p + 1 - b) = (row.drop q).take (p + 1 - b) := fun q hq => by
    rw [List.drop_take, List.take_take]; congr 1; omega
  have he : earlier (row.take (p + 1)) b = true ↔ ∃ q, q < b ∧ (row.drop q).take (p + 1 - b) = (row.drop b).take (p + 1 - b) := by
    unfold earlier
    rw [hlen, hd, List.any_eq_true]
    constructor
    · rintro ⟨q, h1, h2⟩
      have h1 := List.mem_range.mp h1
      have h2 := of_decide_eq_true h2
      rw [hq q (by omega)] at h2
      exact ⟨q, h1, h2⟩
    · rintro ⟨q, h1, h2⟩
      exact ⟨q, List.mem_range.mpr h1, decide_eq_true (by rw [hq q (by omega)]; exact h2)⟩
  rcases findT_spec row ((row.drop b).take (p + 1 - b)) with ⟨i, h1, h2, h3, h4⟩ | ⟨h1, h2⟩
  · rw [hl] at h2 h3 h4
    have hib : i ≤ b := by
      apply Classical.byContradiction
      intro hn
      exact h4 b (by omega) rfl
    rw [h1]
    by_cases e : i = b
    · subst e
      have : earlier (row.take (p + 1)) i = false := by
        cases z : earlier (row.take (p + 1)) i with
        | false => rfl
        | true =>
          obtain ⟨q, q1, q2⟩ := he.mp z
          exact absurd q2 (h4 q q1)
      rw [this]; simp
    · have : earlier (row.take (p + 1)) b = true := he.mpr ⟨i, by omega, h3⟩
      rw [this]
      simp; omega
  · have := h2 b (by rw [hl])
    rw [hl] at this
    omega
theorem dhas_iff {κ β : Type} [DecidableEq κ] {d : List (κ × β)} {k : κ} : dhas d k = true ↔ k ∈ d.map (·.1) := by
  unfold dhas dget
  rw [Option.isSome_map, List.find?_isSome]
  simp [List.mem_map]
theorem mem_dput {κ β : Type} [DecidableEq κ] {d : List (κ × β)} {k k' : κ} {x : β} : k' ∈ (dput d k x).map (·.1) ↔ k' ∈ d.map (·.1) ∨ k' = k := by
  unfold dput
  by_cases h : (d.any fun p => decide (p.1 = k)) = true
  · rw [if_pos h, List.map_map]
    have e : (d.map ((fun p => p.1) ∘ fun p => if p.1 = k then (p.1, x) else p)) = d.map (·.1) := List.map_congr_left fun p _ => by
      show (if p.1 = k then (p.1, x) else p).1 = p.1
      split <;> rfl
    rw [e]
    obtain ⟨p, hp, hk⟩ := List.any_eq_true.mp h
    have hk := of_decide_eq_true hk
    constructor
    · exact .inl
    · rintro (h | h)
      · exact h
      · rw [h, ← hk]; exact List.mem_map_of_mem hp
  · rw [if_neg h]; simp
theorem mem_dmk {κ β : Type} [DecidableEq κ] {l : List (κ × β)} {k : κ} : k ∈ (dmk l).map (·.1) ↔ k ∈ l.map (·.1) := by
  unfold dmk
  have key : ∀ (l d : List (κ × β)), k ∈ (l.foldl (fun d p => dput d p.1 p.2) d).map (·.1) ↔ k ∈ d.map (·.1) ∨ k ∈ l.map (·.1) := by
    intro l
    induction l with
    | nil => intro d; simp
    | cons p l ih =>
      intro d
      rw [List.foldl_cons, ih, mem_dput, List.map_cons, List.mem_cons]
      constructor
      · rintro ((h | h) | h)
        · exact .inl h
        · exact .inr (.inl h)
        · exact .inr (.inr h)
      · rintro (h | h | h)
        · exact .inl (.inl h)
        · exact .inl (.inr h)
        · exact .inr h
  rw [key]; simp
theorem dhas_marks (marks : List Int) (x : Int) : dhas (dmk (marks.map fun x => (x, true))) x = decide (x ∈ marks) := by
  rw [Bool.eq_iff_iff, dhas_iff, mem_dmk, List.map_map, decide_eq_true_eq]
  have : marks.map ((fun p : Int × Bool => p.1) ∘ fun x => (x, true)) = marks := by
    have : ((fun p : Int × Bool => p.1) ∘ fun x => (x, true)) = id := rfl
    rw [this, List.map_id]
  rw [this]
/-- how many places ahead of i are marks -/
def cnt (marks : List Int) : Nat → Int
  | 0 => 0
  | i + 1 => cnt marks i + b2z (decide ((i : Int) ∈ marks))
theorem cnt_mono (marks : List Int) (i k : Nat) : cnt marks i ≤ cnt marks (i + k) := by
  induction k with
  | zero => exact Int.le_refl _
  | succ k ih =>
    have : cnt marks (i + (k + 1)) = cnt marks (i + k) + b2z (decide (((i + k : Nat) : Int) ∈ marks)) := rfl
    rw [this]
    have : 0 ≤ b2z (decide (((i + k : Nat) : Int) ∈ marks)) := by unfold b2z; split <;> decide
    omega
theorem cnt_lt (marks : List Int) (i k : Nat) : cnt marks i < cnt marks (i + k) ↔ ∃ m ∈ marks, (i : Int) ≤ m ∧ m < (i : Int) + k := by
  induction k with
  | zero => constructor
            · intro h; exact absurd h (Int.lt_irrefl _)
            · rintro ⟨m, _, h1, h2⟩; omega
  | succ k ih =>
    have e : cnt marks (i + (k + 1)) = cnt marks (i + k) + b2z (decide (((i + k : Nat) : Int) ∈ marks)) := rfl
    rw [e]
    have := cnt_mono marks i k
    by_cases hm : ((i + k : Nat) : Int) ∈ marks
    · rw [decide_eq_true hm]
      constructor
      · intro _; exact ⟨_, hm, by omega, by omega⟩
      · intro _; show _ < _ + 1; omega
    · rw [decide_eq_false hm]
      show cnt marks i < cnt marks (i + k) + 0 ↔ _
      rw [Int.add_zero, ih]
      constructor
      · rintro ⟨m, h1, h2, h3⟩; exact ⟨m, h1, h2, by omega⟩
      · rintro ⟨m, h1, h2, h3⟩
        refine ⟨m, h1, h2, ?_⟩
        apply Classical.byContradiction
        intro hn
        have : m = ((i + k : Nat) : Int) := by omega
        exact hm (this ▸ h1)
theorem ixI_nat {α : Type} [Inhabited α] {l : List α} {i : Nat} (h : i < l.length) : ixI l (i : Int) = l[i] := by
  unfold ixI atI ixN
  rw [if_pos (by omega), if_pos (by omega)]
  show (l[((i : Int)).toNat]?).getD default = l[i]
  rw [Int.toNat_natCast, List.getElem?_eq_getElem h]; rfl
theorem forC_congr {α S R X : Type} {f g : S → α → Ctl S R X} : ∀ {xs : List α} {s : S}, (∀ x ∈ xs, ∀ s, f s x = g s x) → forC xs s f = forC xs s g
  | [], _, _ => rfl
  | x :: xs, s, h => by
    show (f s x).bind _ = (g s x).bind _
    rw [h x (by simp) s]
    congr 1
    funext s'
    exact forC_congr fun y hy => h y (by simp [hy])
/-! ### the cutting's marks are a net -/
theorem cuts_pre (u v : Tx) : ∃ l, cuts (u ++ v) = cuts u ++ l ∧ ∀ x ∈ l, (u.length : Int) ≤ x := by
  refine snocI (p := fun v => ∃ l, cuts (u ++ v) = cuts u ++ l ∧ ∀ x ∈ l, (u.length : Int) ≤ x) ⟨[], by simp, fun x h => by cases h⟩ (fun r c ih => ?_) v
  obtain ⟨l, h1, h2⟩ := ih
  rw [← List.append_assoc, cuts_snoc]
  split
  · exact ⟨l, h1, h2⟩
  · refine ⟨l ++ [((u ++ r).length : Int)], by rw [h1, List.append_assoc], fun x hx => ?_⟩
    rcases List.mem_append.mp hx with h | h
    · exact h2 x h
    · have : x = ((u ++ r).length : Int) := by simpa using h
      rw [this, List.length_append]; omega
/-- a word that stands, stands over a mark where it stands first -/
theorem net_first {row w : Tx} {i : Nat} (hw : 0 < w.length) (hi : i + w.length ≤ row.length) (ho : (row.drop i).take w.length = w) (hf : ∀ k, k < i → (row.drop k).take w.length ≠ w) : ∃ m ∈ cuts row, (i : Int) ≤ m ∧ m < (i : Int) + w.length := by
  apply Classical.byContradiction
  intro hn
  have hno : ∀ m ∈ cuts row, ¬ ((i : Int) ≤ m ∧ m < (i : Int) + w.length) := fun m hm h => hn ⟨m, hm, h⟩
  have hlt : i + w.length - 1 < row.length := by omega
  have et : row.take (i + w.length) = row.take (i + w.length - 1) ++ [row[i + w.length - 1]] := by
    have := List.take_succ (l := row) (i := i + w.length - 1)
    rw [show i + w.length - 1 + 1 = i + w.length by omega] at this
    rw [this, List.getElem?_eq_getElem hlt]; rfl
  have hlen : (row.take (i + w.length - 1)).length = i + w.length - 1 := by rw [List.length_take]; omega
  have hin : ∀ m ∈ cuts (row.take (i + w.length)), m ∈ cuts row := fun m hm => by
    obtain ⟨l, h1, _⟩ := cuts_pre (row.take (i + w.length)) (row.drop (i + w.length))
    rw [List.take_append_drop] at h1
    rw [h1]; exact List.mem_append_left _ hm
  have hs := cuts_snoc (row.take (i + w.length - 1)) row[i + w.length - 1]
  rw [← et, hlen] at hs
  have hb := beg_last (row.take (i + w.length - 1))
  cases e : earlier (row.take (i + w.length)) (beg (row.take (i + w.length - 1))) with
  | false =>
    rw [e] at hs
    have hm : ((i + w.length - 1 : Nat) : Int) ∈ cuts (row.take (i + w.length)) := by rw [hs]; simp
    exact hno _ (hin _ hm) (by omega)
  | true =>
    rw [e, if_pos rfl] at hs
    have hbi : beg (row.take (i + w.length - 1)) ≤ i := by
      by_cases hc : cuts (row.take (i + w.length - 1)) = []
      · rw [hb.1 hc]; omega
      · obtain ⟨l, hl⟩ := hb.2.1 hc
        have hm : (beg (row.take (i + w.length - 1)) : Int) - 1 ∈ cuts (row.take (i + w.length - 1)) := by rw [hl]; simp
        have h1 := cuts_in _ _ hm
        have h2 := hno _ (hin _ (by rw [hs]; exact hm))
        rw [hlen] at h1
        omega
    generalize beg (row.take (i + w.length - 1)) = b at e hbi
    unfold earlier at e
    obtain ⟨q, hq, he⟩ := List.any_eq_true.mp e
    have hq := List.mem_range.mp hq
    have he := of_decide_eq_true he
    have hl2 : (row.take (i + w.length)).length = i + w.length := by rw [List.length_take]; omega
    rw [hl2] at he
    have h3 := congrArg (List.drop (i - b)) he
    rw [List.drop_take, List.drop_drop, List.drop_drop] at h3
    have e1 : b + (i - b) = i := by omega
    rw [e1] at h3
    have e2 : (row.take (i + w.length)).drop i = w := by
      rw [List.drop_take]
      have : i + w.length - i = w.length := by omega
      rw [this]; exact ho
    rw [e2, List.drop_take, List.take_take] at h3
    have e3 : min (i + w.length - b - (i - b)) (i + w.length - (q + (i - b))) = w.length := by omega
    rw [e3] at h3
    exact hf (q + (i - b)) (by omega) h3
theorem any_marks (marks : List Int) (x : Nat) (k : Nat) : (List.any (List.map (fun x9 => (decide ((x : Int) ≤ x9) && decide (x9 < ((x : Int) + ((k : Nat) : Int))))) marks) id) = true ↔ ∃ m ∈ marks, (x : Int) ≤ m ∧ m < (x : Int) + k := by
  rw [List.any_map, List.any_eq_true]
  constructor
  · rintro ⟨m, h1, h2⟩
    simp at h2
    exact ⟨m, h1, h2⟩
  · rintro ⟨m, h1, h2⟩
    exact ⟨m, h1, by simp; exact h2⟩
theorem earlier_take {row : Tx} {b p : Nat} (hb : b ≤ p) (hp : p < row.length) : earlier (row.take (p + 1)) b = (List.range b).any fun q => decide ((row.drop q).take (p + 1 - b) = (row.drop b).take (p + 1 - b)) := by
  have hd : (row.take (p + 1)).drop b = (row.drop b).take (p + 1 - b) := by rw [List.drop_take]
  have hlen : (row.take (p + 1)).length = p + 1 := by rw [List.length_take]; omega
  have hq : ∀ q, q ≤ b → ((row.take (p + 1)).drop q).take (p + 1 - b) = (row.drop q).take (p + 1 - b) := fun q hq => by
    rw [List.drop_take, List.take_take]; congr 1; omega
  unfold earlier
  rw [hlen, hd, Bool.eq_iff_iff, List.any_eq_true, List.any_eq_true]
  constructor
  · rintro ⟨q, h1, h2⟩
    have h3 := List.mem_range.mp h1
    exact ⟨q, h1, by rw [hq q (by omega)] at h2; exact h2⟩
  · rintro ⟨q, h1, h2⟩
    have h3 := List.mem_range.mp h1
    exact ⟨q, h1, by rw [hq q (by omega)]; exact h2⟩
/-- the program's search, on a row of which a part is looked at -/
theorem earlier_mid {row : Tx} {b p : Nat} (hb : b ≤ p) (hp : p < row.length) : ((List.map (fun x => decide (cut row (some x) (some (x + (((cut row (some (b : Int)) (some ((p : Int) + 1))).length : Nat) : Int))) = cut row (some (b : Int)) (some ((p : Int) + 1)))) (irange 0 (b : Int))).any id) = earlier (row.take (p + 1)) b := by
  rw [any_irange, earlier_take hb hp]
  have e0 : ((p : Int) + 1) = ((p + 1 : Nat) : Int) := by omega
  rw [e0, cut_nn]
  have el : ((row.drop b).take (p + 1 - b)).length = p + 1 - b := by rw [List.length_take, List.length_drop]; omega
  rw [el]
  congr 1
  funext q
  have : (q : Int) + ((p + 1 - b : Nat) : Int) = ((q + (p + 1 - b) : Nat) : Int) := by omega
  rw [this, cut_nn]
  have : q + (p + 1 - b) - q = p + 1 - b := by omega
  rw [this]
/-- the moments of a keeper that grew -/
def momsOf (k : Tx) : List (Tx × List Int) := (List.range (k.length + 1)).map fun i => (k.take i, cuts (k.take i))
theorem moms_snoc (k : Tx) (c : Nat) : momsOf (k ++ [c]) = momsOf k ++ [(k ++ [c], cuts (k ++ [c]))] := by
  unfold momsOf
  rw [List.length_append, List.length_singleton, List.range_succ, List.map_append]
  congr 1
  · refine List.map_congr_left fun i hi => ?_
    have := List.mem_range.mp hi
    rw [List.take_append_of_le_length (by omega)]
  · have e : (k ++ [c]).take (k.length + 1) = k ++ [c] := List.take_of_length_le (by rw [List.length_append, List.length_singleton]; omega)
    rw [List.map_singleton, e]
theorem moms_len (k : Tx) : (momsOf k).length = k.length + 1 := by unfold momsOf; rw [List.length_map, List.length_range]
theorem moms_split (k : Tx) : ∃ l, momsOf k = l ++ [(k, cuts k)] := by
  unfold momsOf
  rw [List.range_succ, List.map_append]
  exact ⟨_, by rw [List.map_singleton, List.take_length]⟩
theorem moms_last (k : Tx) : ixI (momsOf k) (-1) = (k, cuts k) := by
  obtain ⟨l, h⟩ := moms_split k
  rw [h, ixI_last]
theorem moms_drop (k : Tx) (c : Nat) : (momsOf (k ++ [c])).dropLast = momsOf k := by rw [moms_snoc, List.dropLast_concat]
end Fw

namespace K84
open PySem PySem.Spec L2 Fw

structure Pot where
  a : Int
  b : Int
  h : 0 ≤ b ∧ b < 2147483647
def potL (s : Pot) : List Int := [s.a, s.b]
theorem potL_len (s : Pot) : (potL s).length = 2 := rfl

theorem b2z_64 (b : Bool) : -(2 ^ 64) < b2z b ∧ b2z b < 2 ^ 64 := by cases b <;> decide
def takeP (s : Pot) (m : Int) : Int × Pot :=
  if 0 < s.a then (s.a % m, ⟨s.a / m, s.b, s.h⟩)
  else ((s.b * 69621 + 12345) % 2147483647 * ((s.b * 69621 + 12345) % 2147483647) % 2147483629 / 64 % m, ⟨s.a, (s.b * 69621 + 12345) % 2147483647, by omega⟩)
theorem take_lt (s : Pot) (m : Int) (h : 0 < m) : 0 ≤ (takeP s m).1 ∧ (takeP s m).1 < m := by
  unfold takeP
  split
  · exact ⟨Int.emod_nonneg _ (by omega), Int.emod_lt_of_pos _ h⟩
  · exact ⟨Int.emod_nonneg _ (by omega), Int.emod_lt_of_pos _ h⟩
def m_is_whole_c (thing_ : Int) : Ctl Empty Bool Empty :=
  (.rt (true && (!false)))
def m_is_whole (thing_ : Int) : Bool := (m_is_whole_c thing_).out Empty.elim
def m_are_marks_c (row_ : Tx) (thing_ : (List Int)) : Ctl Empty Bool Empty :=
  (Ctl.bind (forC thing_ (-(1 : Int)) (fun (s4 : Int) (x1 : Int) => (if ((!(m_is_whole x1)) || ((decide (x1 ≤ s4)) || (decide (((List.length row_ : Nat) : Int) ≤ x1)))) = true then (.rt false) else (.nx x1)))) fun (s4 : Int) => (.rt true))
def m_are_marks (row_ : Tx) (thing_ : (List Int)) : Bool := (m_are_marks_c row_ thing_).out Empty.elim
def m_marks_ahead_c (row_ : Tx) (marks_ : (List Int)) : Ctl Empty (List Int) Empty :=
  (letC (Dc.mk (dmk (List.map (fun x1 => (x1, true)) marks_))) fun (held_4 : (Dc Int Bool)) => (Ctl.bind (forC (irange 0 ((List.length row_ : Nat) : Int)) ([(0 : Int)] : List Int) (fun (s9 : List Int) (x6 : Int) => (.nx (s9 ++ [((ixI s9 (-(1 : Int))) + (b2z (dhas (held_4).l x6)))])))) fun (s9 : List Int) => (.rt s9)))
def m_marks_ahead (row_ : Tx) (marks_ : (List Int)) : (List Int) := (m_marks_ahead_c row_ marks_).out Empty.elim

theorem out_bind_nx {S R : Type} (o : Ctl S R Empty) (f : S → R) : (o.bind fun s => (.rt (f s) : Ctl Empty R Empty)).out Empty.elim = o.out f := by cases o with
  | nx s => rfl
  | rt r => rfl
  | rs x => exact x.elim
/-- a loop that only goes on -/
theorem forC_nx {α S R X : Type} (g : S → α → S) : ∀ (xs : List α) (s : S), forC xs s (fun s x => (.nx (g s x) : Ctl S R X)) = .nx (xs.foldl g s)
  | [], s => rfl
  | x :: xs, s => by show (Ctl.nx (g s x)).bind _ = _; exact forC_nx g xs (g s x)
theorem foldl_app_len {α β : Type} (g : List β → α → β) : ∀ (xs : List α) (s : List β), (xs.foldl (fun s x => s ++ [g s x]) s).length = s.length + xs.length
  | [], s => rfl
  | x :: xs, s => by rw [List.foldl_cons, foldl_app_len g xs]; simp; omega
theorem marks_ahead_len {row : Tx} {marks l : List Int} (h : l = m_marks_ahead row marks) : l.length = row.length + 1 := by
  subst h
  unfold m_marks_ahead m_marks_ahead_c letC
  rw [out_bind_nx, forC_nx, Ctl.out, foldl_app_len, irange_len]
  simp; omega

theorem marks_ahead_len0 (row : Tx) (marks : List Int) : (m_marks_ahead row marks).length = row.length + 1 := marks_ahead_len rfl

def m_over_c (row_ : Tx) (marks_ : (List Int)) (word_ : Tx) : Ctl Empty (Option Int) Empty :=
  (letC ((List.length word_ : Nat) : Int) fun (many_1 : Int) => (letC (m_marks_ahead row_ marks_) fun (ahead_3 : (List Int)) => (Ctl.bind (forC (irange 0 ((((List.length row_ : Nat) : Int) - many_1) + (1 : Int))) () (fun (s7 : Unit) (x4 : Int) => (if ((decide ((ixI ahead_3 x4) < (ixI ahead_3 (x4 + many_1)))) && (decide ((cut row_ (some x4) (some (x4 + many_1))) = word_))) = true then (.rt (some x4)) else (.nx ())))) fun (s7 : Unit) => (.rt (none : (Option Int))))))
def m_over (row_ : Tx) (marks_ : (List Int)) (word_ : Tx) : (Option Int) := (m_over_c row_ marks_ word_).out Empty.elim
def m_least_lacking_c (row_ : Tx) (ahead_ : (List Int)) (many_ : Int) : Ctl Empty (Option Tx) Empty :=
  (Ctl.bind (forC (irange 0 ((((List.length row_ : Nat) : Int) - many_) + (1 : Int))) (([] : List (Tx × Bool)), ([] : List (Tx × Bool))) (fun (s6 : List (Tx × Bool) × List (Tx × Bool)) (x3 : Int) => (letC (cut row_ (some x3) (some (x3 + many_))) fun (word_9 : Tx) => (Ctl.bind (if (decide ((ixI ahead_ x3) < (ixI ahead_ (x3 + many_)))) = true then (.nx ((dput s6.2 word_9 true), s6.1)) else (.nx (s6.2, (dput s6.1 word_9 true)))) fun (s11 : List (Tx × Bool) × List (Tx × Bool)) => (.nx (s11.2, s11.1)))))) fun (s6 : List (Tx × Bool) × List (Tx × Bool)) => (.rt (minT (List.map (fun x12 => x12) (List.filter (fun x12 => (!dhas ((Dc.mk s6.2)).l x12)) (List.map (fun q => q.1) s6.1))))))
def m_least_lacking (row_ : Tx) (ahead_ : (List Int)) (many_ : Int) : (Option Tx) := (m_least_lacking_c row_ ahead_ many_).out Empty.elim
def m_lacking_c (row_ : Tx) (marks_ : (List Int)) : Ctl Empty (Option Tx) Empty :=
  (letC (m_marks_ahead row_ marks_) fun (ahead_2 : (List Int)) => (Ctl.bind (forC (irange (1 : Int) (((List.length row_ : Nat) : Int) + (1 : Int))) () (fun (s6 : Unit) (x3 : Int) => (letC (m_least_lacking row_ ahead_2 x3) fun (word_8 : (Option Tx)) => (if (word_8).isSome = true then (.rt word_8) else (.nx ()))))) fun (s6 : Unit) => (.rt (none : (Option Tx)))))
def m_lacking (row_ : Tx) (marks_ : (List Int)) : (Option Tx) := (m_lacking_c row_ marks_).out Empty.elim
def m_is_net_c (row_ : Tx) (thing_ : (List Int)) : Ctl Empty Bool Empty :=
  (.rt ((m_are_marks row_ thing_) && ((m_lacking row_ thing_)).isNone))
def m_is_net (row_ : Tx) (thing_ : (List Int)) : Bool := (m_is_net_c row_ thing_).out Empty.elim
theorem marks_ahead_at {row : Tx} {marks : List Int} : (m_marks_ahead row marks).length = row.length + 1 ∧ ∀ i : Nat, i ≤ row.length → ixI (m_marks_ahead row marks) (i : Int) = cnt marks i := by
  have key : (m_marks_ahead row marks).length = row.length + 1 ∧ ∀ i : Nat, i ≤ row.length → (m_marks_ahead row marks)[i]? = some (cnt marks i) := by
    unfold m_marks_ahead m_marks_ahead_c
    refine Ctl.ok_out (p := fun (r : List Int) => r.length = row.length + 1 ∧ ∀ i : Nat, i ≤ row.length → r[i]? = some (cnt marks i)) ?_
    refine Ctl.ok_let fun held hh => ?_
    refine Ctl.ok_bind (fun (r : List Int) => r.length = row.length + 1 ∧ ∀ i : Nat, i ≤ row.length → r[i]? = some (cnt marks i)) ?_ fun s hs => Ctl.ok_rt hs
    refine Ctl.ok_for0 (fun n (r : List Int) => r.length = n + 1 ∧ ∀ i : Nat, i ≤ n → r[i]? = some (cnt marks i)) ⟨rfl, fun i hi => ?_⟩ (fun n x s hx hI => ?_) fun s hs => ?_
    · have : i = 0 := by omega
      subst this; rfl
    · obtain ⟨h1, h2⟩ := hI
      have hi := irange_at hx
      have ex : x = (n : Int) := by omega
      subst ex
      subst hh
      have hl : ixI s (-(1 : Int)) = cnt marks n := by
        have hne : s ≠ [] := fun e => by rw [e] at h1; simp at h1
        have e1 : s = s.dropLast ++ [s.getLast hne] := (List.dropLast_concat_getLast hne).symm
        have e2 := ixI_last s.dropLast (s.getLast hne)
        rw [← e1] at e2
        show ixI s (-1) = _
        rw [e2]
        have h3 := h2 n (Nat.le_refl n)
        rw [List.getElem?_eq_getElem (by omega)] at h3
        have h4 := Option.some.inj h3
        rw [← h4, List.getLast_eq_getElem]
        congr 1; omega
      refine Ctl.ok_nx ⟨by simp [h1], fun i hi2 => ?_⟩
      rw [hl]
      by_cases e : i ≤ n
      · rw [List.getElem?_append_left (by omega)]; exact h2 i e
      · have : i = n + 1 := by omega
        subst this
        rw [List.getElem?_append_right (by omega), h1, Nat.sub_self]
        show some (cnt marks n + b2z (dhas (dmk (marks.map fun x => (x, true))) (n : Int))) = some (cnt marks n + _)
        rw [dhas_marks]
    · rw [irange_len] at hs
      have : (((List.length row : Nat) : Int) - 0).toNat = row.length := by omega
      rw [this] at hs
      exact hs
  refine ⟨key.1, fun i hi => ?_⟩
  have h := key.2 i hi
  rw [ixI_nat (by have := key.1; omega)]
  rw [List.getElem?_eq_getElem (by have := key.1; omega)] at h
  exact Option.some.inj h
/-- marks that rise within the row -/
def Rise (n : Nat) (marks : List Int) : Prop := marks.Pairwise (· < ·) ∧ ∀ m ∈ marks, 0 ≤ m ∧ m < (n : Int)
theorem are_marks_k {row : Tx} {marks : List Int} : m_are_marks row marks = true ↔ Rise row.length marks := by
  have hw : ∀ x, m_is_whole x = true := fun x => rfl
  have key : ∀ (l : List Int) (a : Int), -1 ≤ a → ((forC l a (fun (s4 : Int) (x1 : Int) => (if ((!(m_is_whole x1)) || ((decide (x1 ≤ s4)) || (decide (((List.length row : Nat) : Int) ≤ x1)))) = true then (.rt false) else (.nx x1) : Ctl Int Bool Empty))).bind fun (_ : Int) => (.rt true : Ctl Empty Bool Empty)) = .rt (decide ((a :: l).Pairwise (· < ·) ∧ ∀ m ∈ l, m < (row.length : Int))) := by
    intro l
    induction l with
    | nil => intro a _; simp [forC, Ctl.bind]
    | cons x l ih =>
      intro a ha
      show (((if _ then _ else _ : Ctl Int Bool Empty).bind fun s' => forC l s' _).bind _) = _
      rw [hw x]
      by_cases h1 : x ≤ a
      · rw [if_pos (by simp [h1])]
        show Ctl.rt false = _
        congr 1
        symm
        rw [decide_eq_false_iff_not]
        rintro ⟨h2, _⟩
        have := (List.pairwise_cons.mp h2).1 x (by simp)
        omega
      · by_cases h2 : (row.length : Int) ≤ x
        · rw [if_pos (by simp [h2])]
          show Ctl.rt false = _
          congr 1
          symm
          rw [decide_eq_false_iff_not]
          rintro ⟨_, h3⟩
          have := h3 x (by simp)
          omega
        · rw [if_neg (by simp [h1, h2])]
          show ((forC l x _).bind _) = _
          rw [ih x (by omega)]
          congr 1
          rw [decide_eq_decide, List.pairwise_cons (a := a)]
          constructor
          · rintro ⟨h3, h4⟩
            refine ⟨⟨fun y hy => ?_, h3⟩, fun m hm => ?_⟩
            · rcases List.mem_cons.mp hy with e | e
              · omega
              · have := (List.pairwise_cons.mp h3).1 y e
                omega
            · rcases List.mem_cons.mp hm with e | e
              · omega
              · exact h4 m e
          · rintro ⟨⟨_, h3⟩, h4⟩
            exact ⟨h3, fun m hm => h4 m (by simp [hm])⟩
  unfold m_are_marks m_are_marks_c
  rw [key marks (-1) (by omega)]
  show decide _ = true ↔ _
  rw [decide_eq_true_eq, List.pairwise_cons]
  unfold Rise
  constructor
  · rintro ⟨⟨h1, h2⟩, h3⟩
    exact ⟨h2, fun m hm => ⟨by have := h1 m hm; omega, h3 m hm⟩⟩
  · rintro ⟨h2, h3⟩
    exact ⟨⟨fun m hm => by have := (h3 m hm).1; omega, h2⟩, fun m hm => (h3 m hm).2⟩
/-- each word of so many letters stands over a mark somewhere -/
def NetK (row : Tx) (marks : List Int) (k : Nat) : Prop := ∀ i, i + k ≤ row.length → ∃ j, j + k ≤ row.length ∧ (row.drop j).take k = (row.drop i).take k ∧ ∃ m ∈ marks, (j : Int) ≤ m ∧ m < (j : Int) + k
def NetW (row : Tx) (marks : List Int) : Prop := ∀ k, 1 ≤ k → k ≤ row.length → NetK row marks k
theorem dhas_put {κ β : Type} [DecidableEq κ] {d : List (κ × β)} {k k' : κ} {x : β} : dhas (dput d k x) k' = true ↔ dhas d k' = true ∨ k' = k := by rw [dhas_iff, dhas_iff, mem_dput]
theorem least_k {row : Tx} {marks : List Int} {many : Nat} (h1 : 1 ≤ many) (h2 : many ≤ row.length) : (m_least_lacking row (m_marks_ahead row marks) (many : Int)).isNone = true ↔ NetK row marks many := by
  unfold m_least_lacking m_least_lacking_c
  refine Ctl.ok_out (p := fun (r : Option Tx) => r.isNone = true ↔ NetK row marks many) ?_
  refine Ctl.ok_bind (fun s => (∀ w, dhas s.2 w = true ↔ ∃ j, j < row.length + 1 - many ∧ (row.drop j).take many = w ∧ ∃ m ∈ marks, (j : Int) ≤ m ∧ m < (j : Int) + many) ∧ (∀ w, dhas s.1 w = true ↔ ∃ j, j < row.length + 1 - many ∧ (row.drop j).take many = w ∧ ¬ ∃ m ∈ marks, (j : Int) ≤ m ∧ m < (j : Int) + many)) ?_ fun s hs => ?_
  · refine Ctl.ok_for0 (fun n s => (∀ w, dhas s.2 w = true ↔ ∃ j, j < n ∧ (row.drop j).take many = w ∧ ∃ m ∈ marks, (j : Int) ≤ m ∧ m < (j : Int) + many) ∧ (∀ w, dhas s.1 w = true ↔ ∃ j, j < n ∧ (row.drop j).take many = w ∧ ¬ ∃ m ∈ marks, (j : Int) ≤ m ∧ m < (j : Int) + many)) ⟨fun w => ⟨fun h => (by cases h), fun ⟨j, h, _⟩ => absurd h (Nat.not_lt_zero j)⟩, fun w => ⟨fun h => (by cases h), fun ⟨j, h, _⟩ => absurd h (Nat.not_lt_zero j)⟩⟩ (fun n x s hx hI => ?_) fun s hs => ?_
    · obtain ⟨i1, i2⟩ := hI
      have hi := irange_at hx
      have ex : x = (n : Int) := by omega
      subst ex
      have hn : n + many ≤ row.length := by omega
      have ec : cut row (some (n : Int)) (some ((n : Int) + (many : Int))) = (row.drop n).take many := by
        have : ((n : Int) + (many : Int)) = ((n + many : Nat) : Int) := by omega
        rw [this, cut_nn]; congr 1; omega
      refine Ctl.ok_let fun w hw => ?_
      rw [ec] at hw
      have e1 := (marks_ahead_at (row := row) (marks := marks)).2 n (by omega)
      have e2 := (marks_ahead_at (row := row) (marks := marks)).2 (n + many) hn
      have e3 : ((n : Int) + (many : Int)) = ((n + many : Nat) : Int) := by omega
      rw [e3, e1, e2]
      refine Ctl.ok_bind (fun s' => (∀ w, dhas s'.1 w = true ↔ ∃ j, j < n + 1 ∧ (row.drop j).take many = w ∧ ∃ m ∈ marks, (j : Int) ≤ m ∧ m < (j : Int) + many) ∧ (∀ w, dhas s'.2 w = true ↔ ∃ j, j < n + 1 ∧ (row.drop j).take many = w ∧ ¬ ∃ m ∈ marks, (j : Int) ≤ m ∧ m < (j : Int) + many)) ?_ fun s' hs' => Ctl.ok_nx hs'
      have split : ∀ (Pr : Nat → Prop) (w' : Tx), (∃ j, j < n + 1 ∧ (row.drop j).take many = w' ∧ Pr j) ↔ (∃ j, j < n ∧ (row.drop j).take many = w' ∧ Pr j) ∨ (w' = w ∧ Pr n) := fun Pr w' => by
        constructor
        · rintro ⟨j, a, b, c⟩
          by_cases e : j = n
          · subst e; exact .inr ⟨by rw [hw]; exact b.symm, c⟩
          · exact .inl ⟨j, by omega, b, c⟩
        · rintro (⟨j, a, b, c⟩ | ⟨a, c⟩)
          · exact ⟨j, by omega, b, c⟩
          · exact ⟨n, by omega, by rw [a, hw], c⟩
      refine Ctl.ok_if (fun hc => Ctl.ok_nx ?_) fun hc => Ctl.ok_nx ?_
      · have hm := (cnt_lt marks n many).mp (of_decide_eq_true hc)
        refine ⟨fun w' => ?_, fun w' => ?_⟩
        · show dhas (dput s.2 w true) w' = true ↔ _
          rw [dhas_put, i1, split]
          exact or_congr Iff.rfl ⟨fun h => ⟨h, hm⟩, fun h => h.1⟩
        · show dhas s.1 w' = true ↔ _
          rw [i2, split]
          exact ⟨.inl, fun h => h.elim id fun h => absurd hm h.2⟩
      · have hm : ¬ _ := fun z => of_decide_eq_false hc ((cnt_lt marks n many).mpr z)
        refine ⟨fun w' => ?_, fun w' => ?_⟩
        · show dhas s.2 w' = true ↔ _
          rw [i1, split]
          exact ⟨.inl, fun h => h.elim id fun h => absurd h.2 hm⟩
        · show dhas (dput s.1 w true) w' = true ↔ _
          rw [dhas_put, i2, split]
          exact or_congr Iff.rfl ⟨fun h => ⟨h, hm⟩, fun h => h.1⟩
    · rw [irange_len] at hs
      have : (((List.length row : Nat) : Int) - (many : Int) + 1 - 0).toNat = row.length + 1 - many := by omega
      rw [this] at hs
      exact hs
  · obtain ⟨i1, i2⟩ := hs
    refine Ctl.ok_rt ?_
    rw [minT_none, decide_eq_true_eq, List.map_eq_nil_iff, List.filter_eq_nil_iff]
    constructor
    · intro h i hi
      by_cases hm : ∃ m ∈ marks, (i : Int) ≤ m ∧ m < (i : Int) + many
      · exact ⟨i, hi, rfl, hm⟩
      · have ho := (i2 ((row.drop i).take many)).mpr ⟨i, by omega, rfl, hm⟩
        have := h _ (dhas_iff.mp ho)
        simp only [Bool.not_eq_true', Bool.not_eq_false, Bool.not_eq_true] at this
        obtain ⟨j, a, b, c⟩ := (i1 _).mp (by simpa using this)
        exact ⟨j, by omega, b, c⟩
    · intro h w hw
      obtain ⟨i, a, b, c⟩ := (i2 w).mp (dhas_iff.mpr hw)
      obtain ⟨j, a', b', c'⟩ := h i (by omega)
      have := (i1 w).mpr ⟨j, by omega, by rw [b', b], c'⟩
      simp [this]
theorem lacking_k {row : Tx} {marks : List Int} : (m_lacking row marks).isNone = true ↔ NetW row marks := by
  unfold m_lacking m_lacking_c
  refine Ctl.ok_out (p := fun (r : Option Tx) => r.isNone = true ↔ NetW row marks) ?_
  refine Ctl.ok_let fun ah hah => ?_
  subst hah
  refine Ctl.ok_bind (fun _ => NetW row marks) ?_ fun _ h => Ctl.ok_rt ⟨fun _ => h, fun _ => rfl⟩
  refine Ctl.ok_for0 (fun n _ => ∀ k, 1 ≤ k → k ≤ n → NetK row marks k) (fun k a b => absurd a (by omega)) (fun n x s hx hI => ?_) fun s hs => ?_
  · have hi := irange_at hx
    have ex : x = ((n + 1 : Nat) : Int) := by omega
    subst ex
    have hk := least_k (row := row) (marks := marks) (many := n + 1) (by omega) (by omega)
    refine Ctl.ok_let fun w hw => Ctl.ok_if (fun h => Ctl.ok_rt ?_) fun h => Ctl.ok_nx fun k a b => ?_
    · rw [hw] at h ⊢
      constructor
      · intro h'
        cases e : m_least_lacking row (m_marks_ahead row marks) ((n + 1 : Nat) : Int) with
        | none => rw [e] at h; cases h
        | some v => rw [e] at h'; cases h'
      · intro h'
        exact hk.mpr (h' (n + 1) (by omega) (by omega))
    · by_cases e : k ≤ n
      · exact hI k a e
      · have : k = n + 1 := by omega
        subst this
        refine hk.mp ?_
        rw [← hw]
        cases w with
        | none => rfl
        | some v => cases h
  · intro k a b
    refine hs k a ?_
    rw [irange_len]; omega
theorem is_net_k {row : Tx} {marks : List Int} : m_is_net row marks = true ↔ Rise row.length marks ∧ NetW row marks := by
  unfold m_is_net m_is_net_c
  show (m_are_marks row marks && (m_lacking row marks).isNone) = true ↔ _
  rw [Bool.and_eq_true, are_marks_k, lacking_k]

def m_stands_earlier_c (row_ : Tx) (begin_ : Int) (behind_ : Int) : Ctl Empty Bool Empty :=
  (letC (cut row_ (some begin_) (some behind_)) fun (word_2 : Tx) => (.rt (List.any (List.map (fun x3 => (decide ((cut row_ (some x3) (some (x3 + ((List.length word_2 : Nat) : Int)))) = word_2))) (irange 0 begin_)) id)))
def m_stands_earlier (row_ : Tx) (begin_ : Int) (behind_ : Int) : Bool := (m_stands_earlier_c row_ begin_ behind_).out Empty.elim
def m_new_stretches_c (row_ : Tx) : Ctl Empty (List (Int × Int)) Empty :=
  (Ctl.bind (forC (irange 0 ((List.length row_ : Nat) : Int)) ((0 : Int), ([] : List (Int × Int))) (fun (s5 : Int × List (Int × Int)) (x2 : Int) => (Ctl.bind (if (!(m_stands_earlier row_ s5.1 (x2 + (1 : Int)))) = true then (.nx ((x2 + (1 : Int)), (s5.2 ++ [(s5.1, (x2 + (1 : Int)))]))) else (.nx (s5.1, s5.2))) fun (s8 : Int × List (Int × Int)) => (.nx (s8.1, s8.2))))) fun (s5 : Int × List (Int × Int)) => (.rt s5.2))
def m_new_stretches (row_ : Tx) : (List (Int × Int)) := (m_new_stretches_c row_).out Empty.elim

theorem new_str_k (row : Tx) : (m_new_stretches row).map (fun x => x.2 - 1) = cuts row ∧ (m_new_stretches row).length ≤ row.length := by
  unfold m_new_stretches m_new_stretches_c
  refine Ctl.ok_out (p := fun (r : List (Int × Int)) => r.map (fun x => x.2 - 1) = cuts row ∧ r.length ≤ row.length) ?_
  have step : ∀ n, n < row.length → row.take (n + 1) = row.take n ++ [row[n]!] := fun n h => by
    rw [List.take_succ, List.getElem?_eq_getElem h]
    simp [h]
  refine Ctl.ok_bind (fun s => s.2.map (fun x => x.2 - 1) = cuts row ∧ s.2.length ≤ row.length) ?_ fun s hs => Ctl.ok_rt hs
  refine Ctl.ok_for0 (fun n s => s.1 = (beg (row.take n) : Int) ∧ s.2.map (fun x => x.2 - 1) = cuts (row.take n) ∧ s.2.length ≤ n) ⟨rfl, rfl, Nat.le_refl _⟩ (fun n x s hx hI => ?_) fun s h => ?_
  · have hi := irange_at hx
    have hn : n < row.length := by omega
    have ex : x = (n : Int) := by omega
    subst ex
    obtain ⟨b, f⟩ := s
    obtain ⟨i1, i2, i3⟩ := hI
    have i1 : b = (beg (row.take n) : Int) := i1
    subst i1
    have hb : beg (row.take n) ≤ n := by
      have := (beg_last (row.take n)).2.2
      rw [List.length_take] at this; omega
    have es : m_stands_earlier row (beg (row.take n) : Int) ((n : Int) + 1) = earlier (row.take (n + 1)) (beg (row.take n)) := earlier_mid hb hn
    have hl : (row.take n).length = n := by rw [List.length_take]; omega
    refine Ctl.ok_bind (fun s' => s'.1 = (beg (row.take (n + 1)) : Int) ∧ s'.2.map (fun x => x.2 - 1) = cuts (row.take (n + 1)) ∧ s'.2.length ≤ n + 1) ?_ fun s' hs' => Ctl.ok_nx hs'
    dsimp only
    rw [es, step n hn, beg_snoc, cuts_snoc, hl]
    cases e : earlier (row.take n ++ [row[n]!]) (beg (row.take n)) with
    | true => exact Ctl.ok_nx ⟨by simp, by simpa using i2, Nat.le_succ_of_le i3⟩
    | false =>
      refine Ctl.ok_nx ⟨by simp, ?_, ?_⟩
      · have i2 : f.map (fun x => x.2 - 1) = cuts (row.take n) := i2
        show (f ++ [_]).map _ = _
        rw [List.map_append, i2]
        simp
      · show (f ++ [_]).length ≤ n + 1
        rw [List.length_append]; simp; exact i3
  · rw [irange_len] at h
    have : (((List.length row : Nat) : Int) - 0).toNat = row.length := by omega
    rw [this, List.take_length] at h
    exact ⟨h.2.1, h.2.2⟩
theorem new_str_len (row : Tx) : (m_new_stretches row).length ≤ row.length := (new_str_k row).2

def m_first_cutting_c (row_ : Tx) : Ctl Empty (List Int) Empty :=
  (.rt (List.map (fun x2 => (x2.2 - (1 : Int))) (m_new_stretches row_)))
def m_first_cutting (row_ : Tx) : (List Int) := (m_first_cutting_c row_).out Empty.elim

theorem first_k (row : Tx) : m_first_cutting row = cuts row := by
  unfold m_first_cutting m_first_cutting_c
  exact (new_str_k row).1

def m_is_letter_c (thing_ : Tx) : Ctl Empty Bool Empty :=
  (.rt (true && ((decide (((List.length thing_ : Nat) : Int) = (1 : Int))) && (leT (tx "a") thing_ && leT thing_ (tx "z")))))
def m_is_letter (thing_ : Tx) : Bool := (m_is_letter_c thing_).out Empty.elim

def m_Keeper_row_c (self_ : (Tx × List Int)) : Ctl Empty Tx Empty :=
  (.rt self_.1)
def m_Keeper_row (self_ : (Tx × List Int)) : Tx := (m_Keeper_row_c self_).out Empty.elim
def m_Keeper_marks_c (self_ : (Tx × List Int)) : Ctl Empty (List Int) Empty :=
  (.rt self_.2)
def m_Keeper_marks (self_ : (Tx × List Int)) : (List Int) := (m_Keeper_marks_c self_).out Empty.elim
def m_Keeper_begin_c (self_ : (Tx × List Int)) : Ctl Empty Int Empty :=
  (if (decide (self_.2 = ([] : List Int))) = true then (.rt (0 : Int)) else (.rt ((ixI self_.2 (-(1 : Int))) + (1 : Int))))
def m_Keeper_begin (self_ : (Tx × List Int)) : Int := (m_Keeper_begin_c self_).out Empty.elim

def InRd (s : Tx × List Int) : Prop := InR s.2
theorem begin_rng (s : Tx × List Int) : InR s.2 → -1000 ≤ m_Keeper_begin s ∧ m_Keeper_begin s ≤ 1000 := by
  intro h
  unfold m_Keeper_begin m_Keeper_begin_c
  by_cases e : s.2 = []
  · simp [e, Ctl.lift, Ctl.out]
  · have hp : 0 < s.2.length := List.length_pos_iff.mpr e
    have hm : ixI s.2 (-1) ∈ s.2 := by
      exact ixI_mem (by unfold Ib; omega)
    have := h _ hm
    simp [e, Ctl.out]
    omega

def k_row (row : Tx) : Tx := row
def k_beg (row : Tx) : Int := (beg row : Int)
def k_put (row l : Tx) : Unit × Tx := ((), row ++ l)
def k_take (row : Tx) : Tx × Tx := ([row.getLastD 0], row.dropLast)
theorem begin_k (row t : Tx) : m_Keeper_begin (t, cuts row) = (beg row : Int) := by
  have h := begin_eq row
  unfold m_Keeper_begin m_Keeper_begin_c
  by_cases e : cuts row = []
  · rw [if_pos (decide_eq_true e)] at h
    simp [e, Ctl.out]; omega
  · rw [if_neg (by simp [e])] at h
    simp [e, Ctl.out]; exact h
theorem inR_cuts {row : Tx} (h : row.length ≤ 60) : InR (cuts row) := fun x hx => by
  have := cuts_in row x hx
  omega

def m_Keeper_over_c (self_ : (Tx × List Int)) (word_ : Tx) : Ctl Empty (Option Int) Empty :=
  (.rt (m_over self_.1 self_.2 word_))
def m_Keeper_over (self_ : (Tx × List Int)) (word_ : Tx) : (Option Int) := (m_Keeper_over_c self_ word_).out Empty.elim

def k_over (row word : Tx) : Option Int := m_over row (cuts row) word

def m_Keeper_put_c (self_ : (Tx × List Int)) (letter_ : Tx) : Ctl ((Tx × List Int)) (Unit × (Tx × List Int)) (Str × (Tx × List Int)) :=
  (if (!(m_is_letter letter_)) = true then (.rs (("NoLetter" : Str), (self_.1, self_.2))) else (if (decide (((List.length self_.1 : Nat) : Int) = (60 : Int))) = true then (.rs (("TooMany" : Str), (self_.1, self_.2))) else (Ctl.bind (if (!(m_stands_earlier (self_.1 ++ letter_) (m_Keeper_begin ((self_.1 ++ letter_), self_.2)) ((List.length (self_.1 ++ letter_) : Nat) : Int))) = true then (.nx (self_.2 ++ [(((List.length (self_.1 ++ letter_) : Nat) : Int) - (1 : Int))])) else (.nx self_.2)) fun (s5 : List Int) => (.nx ((self_.1 ++ letter_), s5)))))
def m_Keeper_put (self_ : (Tx × List Int)) (letter_ : Tx) : Ctl Empty (Unit × (Tx × List Int)) (Str × (Tx × List Int)) := (m_Keeper_put_c self_ letter_).bind fun s => .rt ((fun (s : (Tx × List Int)) => ((), s)) s)

theorem is_letter_L {l : Tx} (h : isL l) : m_is_letter l = true := by
  obtain ⟨c, rfl, h1, h2⟩ := h
  have e1 : leT (tx "a") [c] = true := by
    have : tx "a" = [97] := rfl
    rw [this]
    show (!decide ([c] < [97])) = true
    have : ¬ [c] < [97] := by
      intro h
      rcases h with _ | h | h
      · omega
      · cases ‹List.Lex _ _ _›
    simp [this]
  have e2 : leT [c] (tx "z") = true := by
    have : tx "z" = [122] := rfl
    rw [this]
    show (!decide ([122] < [c])) = true
    have : ¬ [122] < [c] := by
      intro h
      rcases h with _ | h | h
      · omega
      · cases ‹List.Lex _ _ _›
    simp [this]
  unfold m_is_letter m_is_letter_c
  simp [e1, e2, Ctl.out]
theorem put_k {row l : Tx} (h : row.length < 60) (hl : isL l) : m_Keeper_put (row, cuts row) l = .rt ((), (row ++ l, cuts (row ++ l))) := by
  unfold m_Keeper_put m_Keeper_put_c
  rw [is_letter_L hl]
  obtain ⟨c, rfl, h1, h2⟩ := hl
  have e60 : ¬ ((row.length : Int) = 60) := by omega
  have hb := (beg_last row).2.2
  have es : m_stands_earlier (row ++ [c]) (beg row : Int) (((row ++ [c]).length : Nat) : Int) = earlier (row ++ [c]) (beg row) := by
    have := earlier_eq (row ++ [c]) (beg row) (by rw [List.length_append, List.length_singleton]; omega)
    exact this
  simp only [begin_k, es, cuts_snoc]
  cases e : earlier (row ++ [c]) (beg row) with
  | true => simp [e60, Ctl.bind]
  | false =>
    have : ((row ++ [c]).length : Int) - 1 = (row.length : Int) := by rw [List.length_append, List.length_singleton]; omega
    simp [e60, Ctl.bind]

def m_Keeper_take_c (self_ : (Tx × List Int)) : Ctl Empty (Tx × (Tx × List Int)) (Str × (Tx × List Int)) :=
  (if (decide (self_.1 = (tx ""))) = true then (.rs (("NoLetter" : Str), (self_.1, self_.2))) else (letC (ixS self_.1 (-(1 : Int))) fun (letter_2 : Tx) => (letC (cut self_.1 none (some (-(1 : Int)))) fun (l_4 : Tx) => (Ctl.bind (if (decide ((ixI self_.2 (-(1 : Int))) = ((List.length l_4 : Nat) : Int))) = true then (.nx (List.dropLast self_.2)) else (.nx self_.2)) fun (s6 : List Int) => (.rt (letter_2, (l_4, s6)))))))
def m_Keeper_take (self_ : (Tx × List Int)) : Ctl Empty (Tx × (Tx × List Int)) (Str × (Tx × List Int)) := (m_Keeper_take_c self_).bind fun s => .rt ((fun (e : Empty) => e.elim) s)

theorem take_k {row : Tx} (h : 0 < row.length) : m_Keeper_take (row, cuts row) = .rt ((k_take row).1, ((k_take row).2, cuts (k_take row).2)) := by
  have hne : row ≠ [] := List.length_pos_iff.mp h
  obtain ⟨r, c, rfl⟩ : ∃ r c, row = r ++ [c] := ⟨row.dropLast, row.getLast hne, (List.dropLast_concat_getLast hne).symm⟩
  have e1 : ixS (r ++ [c]) (-1) = [c] := by
    have := ixI_last r c
    unfold ixI at this
    unfold ixS
    congr 1
  unfold m_Keeper_take m_Keeper_take_c k_take letC
  have e2 : ¬ (r ++ [c] = tx "") := by rw [tx_nil]; simp
  simp only [cut_m1, e1, List.dropLast_concat]
  rw [if_neg (by simpa using e2)]
  have el : List.getLastD (r ++ [c]) 0 = c := by simp
  rw [el]
  obtain ⟨l, hl⟩ := (beg_last (r ++ [c])).2.1 (cuts_ne (by simp))
  have hi : ixI (cuts (r ++ [c])) (-1) = (beg (r ++ [c]) : Int) - 1 := by rw [hl, ixI_last]
  rw [hi, beg_snoc, cuts_snoc]
  cases e : earlier (r ++ [c]) (beg r) with
  | true =>
    have := (beg_last r).2.2
    have hn : ¬ ((beg r : Int) - 1 = (r.length : Int)) := by omega
    simp [Ctl.bind, hn]
  | false => simp [Ctl.bind]

def m_law_take_c (state_ : (List Int)) (many_ : Int) : Ctl Empty (Int × (List Int)) Empty :=
  (if (decide ((0 : Int) < (ixI state_ (0 : Int)))) = true then (Ctl.lift (letC ((ixI state_ (0 : Int)) % many_) fun (digit_2 : Int) => (letC (setI state_ (0 : Int) ((ixI state_ (0 : Int)) / many_)) fun (z3 : List Int) => (.rt (digit_2, z3))))) else (letC (setI state_ (1 : Int) ((((ixI state_ (1 : Int)) * (69621 : Int)) + (12345 : Int)) % (2147483647 : Int))) fun (z4 : List Int) => (.rt ((((((ixI z4 (1 : Int)) * (ixI z4 (1 : Int))) % (2147483629 : Int)) / (64 : Int)) % many_), z4))))
def m_law_take (state_ : (List Int)) (many_ : Int) : (Int × (List Int)) := (m_law_take_c state_ many_).out Empty.elim

def nuP : Sg Pot Empty := ⟨fun r B0 => nuS (potL r) B0, fun _ => [], fun x => x.elim, fun x => x.elim, nuS_m⟩
theorem take_p (s : Pot) (m : Int) : m_law_take (potL s) m = ((takeP s m).1, potL (takeP s m).2) := by
  unfold m_law_take m_law_take_c takeP potL letC
  have e0 : ∀ a b : Int, ixI [a, b] 0 = a := fun _ _ => rfl
  have e1 : ∀ a b : Int, ixI [a, b] 1 = b := fun _ _ => rfl
  have s0 : ∀ a b c : Int, setI [a, b] 0 c = [c, b] := fun _ _ _ => rfl
  have s1 : ∀ a b c : Int, setI [a, b] 1 c = [a, c] := fun _ _ _ => rfl
  simp only [e0, e1, s0, s1]
  by_cases h : 0 < s.a
  · simp [h, Ctl.lift, Ctl.out]
  · simp [h, Ctl.lift, Ctl.out]

def m_law_pot_c (script_ : (List Int)) (k_ : Int) : Ctl Empty (List Int) Empty :=
  (Ctl.bind (if (decide (k_ < ((List.length script_ : Nat) : Int))) = true then (letC (((Int.natAbs (ixI script_ k_) : Nat) : Int) % (((10 : Int) ^ ((60 : Int)).toNat) ^ ((4 : Int)).toNat)) fun (cell_3 : Int) => (.nx cell_3)) else (.nx (0 : Int))) fun (s2 : Int) => (.rt ([(s2 * (b2z (decide (((10 : Int) ^ ((18 : Int)).toNat) ≤ s2)))), (((((s2 % (2147483629 : Int)) + ((7919 : Int) * k_)) + (1 : Int)) ^ ((5 : Int)).toNat) % (2147483647 : Int))] : List Int)))
def m_law_pot (script_ : (List Int)) (k_ : Int) : (List Int) := (m_law_pot_c script_ k_).out Empty.elim

def cellP (script : List Int) (k : Int) : Int := if decide (k < ((List.length script : Nat) : Int)) = true then ((Int.natAbs (ixI script k) : Nat) : Int) % ((10 : Int) ^ (60 : Int).toNat) ^ (4 : Int).toNat else 0
def potP (script : List Int) (k : Int) : Pot :=
  ⟨cellP script k * b2z (decide ((10 : Int) ^ (18 : Int).toNat ≤ cellP script k)), (cellP script k % 2147483629 + 7919 * k + 1) ^ (5 : Int).toNat % 2147483647, Int.emod_nonneg _ (by decide), Int.emod_lt_of_pos _ (by decide)⟩
theorem pot_k (script : List Int) (k : Int) : m_law_pot script k = potL (potP script k) := by
  have key : ∀ c : Int, c = cellP script k → [c * b2z (decide ((10 : Int) ^ (18 : Int).toNat ≤ c)), (c % 2147483629 + 7919 * k + 1) ^ (5 : Int).toNat % 2147483647] = potL (potP script k) := fun c e => by subst e; rfl
  unfold m_law_pot m_law_pot_c letC
  by_cases h : decide (k < ((List.length script : Nat) : Int)) = true
  · rw [if_pos h]
    exact key _ (by unfold cellP; rw [if_pos h])
  · rw [if_neg h]
    exact key _ (by unfold cellP; rw [if_neg h])

def m_law_some_signs_c (state_ : Pot) : Ctl Empty ((List Tx) × Pot) Empty :=
  (.rt ((lcS (irange 0 ((1 : Int) + (takeP state_ (4 : Int)).1)) (takeP state_ (4 : Int)).2 (fun (s6 : Pot) (x2 : Int) => ((ixS (tx "abcdefghijklmnopqrstuvwxyz") (takeP s6 (26 : Int)).1), (takeP s6 (26 : Int)).2))).1, (lcS (irange 0 ((1 : Int) + (takeP state_ (4 : Int)).1)) (takeP state_ (4 : Int)).2 (fun (s6 : Pot) (x2 : Int) => ((ixS (tx "abcdefghijklmnopqrstuvwxyz") (takeP s6 (26 : Int)).1), (takeP s6 (26 : Int)).2))).2))
def m_law_some_signs (state_ : Pot) : ((List Tx) × Pot) := (m_law_some_signs_c state_).out Empty.elim

theorem signs_len (s : Pot) : 0 < (m_law_some_signs s).1.length ∧ (m_law_some_signs s).1.length ≤ 4 := by
  unfold m_law_some_signs m_law_some_signs_c
  have := take_lt s 4 (by omega)
  show 0 < (lcS _ _ _).1.length ∧ (lcS _ _ _).1.length ≤ 4
  rw [lcS_len, irange_len]
  omega
theorem pick_ib (l : List Tx) (i : Int) (h : l.length = 5) : Ib l.length (ixI [0, 0, 2, 3, 3, 4, 1] i) := by
  have key : ∀ x ∈ ([0, 0, 2, 3, 3, 4, 1] : List Int), 0 ≤ x ∧ x ≤ 4 := by decide
  have : ixI ([0, 0, 2, 3, 3, 4, 1] : List Int) i ∈ ([0, 0, 2, 3, 3, 4, 1] : List Int) ∨ ixI ([0, 0, 2, 3, 3, 4, 1] : List Int) i = default := by
    unfold ixI
    cases e : atI ([0, 0, 2, 3, 3, 4, 1] : List Int) i with
    | none => exact .inr rfl
    | some x =>
      refine .inl ?_
      unfold atI at e
      obtain ⟨j, _, hj⟩ := Option.bind_eq_some_iff.mp e
      exact List.mem_of_getElem? hj
  unfold Ib
  rw [h]
  rcases this with h | h
  · have := key _ h; omega
  · rw [h]; decide

def m_law_next_letter_c (state_ : Pot) (signs_ : (List Tx)) (row_ : Tx) : Ctl Empty (Tx × Pot) Empty :=
  (letC (ixI signs_ (takeP state_ ((List.length signs_ : Nat) : Int)).1) fun (z4 : Tx) => (letC (ixS (tx "abcdefghijklmnopqrstuvwxyz") (takeP (takeP state_ ((List.length signs_ : Nat) : Int)).2 (26 : Int)).1) fun (z5 : Tx) => (letC (takeP (takeP state_ ((List.length signs_ : Nat) : Int)).2 (26 : Int)).2 fun (z6 : Pot) => (if (decide (row_ = (tx ""))) = true then (.rt (z4, z6)) else (letC (ixS row_ ((((List.length row_ : Nat) : Int) - (1 : Int)) - (takeP z6 (min ((List.length row_ : Nat) : Int) (5 : Int))).1)) fun (z9 : Tx) => (letC (takeP z6 (min ((List.length row_ : Nat) : Int) (5 : Int))).2 fun (z10 : Pot) => (letC (ixS row_ (((List.length row_ : Nat) : Int) / (2 : Int))) fun (z11 : Tx) => (.rt ((ixI ([z4, z5, (ixS row_ (-(1 : Int))), z9, z11] : List Tx) (ixI ([(0 : Int), (0 : Int), (2 : Int), (3 : Int), (3 : Int), (4 : Int), (1 : Int)] : List Int) (takeP z10 (7 : Int)).1)), (takeP z10 (7 : Int)).2)))))))))
def m_law_next_letter (state_ : Pot) (signs_ : (List Tx)) (row_ : Tx) : (Tx × Pot) := (m_law_next_letter_c state_ signs_ row_).out Empty.elim

theorem signs_L (s : Pot) : ∀ x ∈ (m_law_some_signs s).1, isL x := by
  unfold m_law_some_signs m_law_some_signs_c
  exact lcS_all (p := isL) _ (fun s x => by
    have := take_lt s 26 (by omega)
    exact abc_L this.1 this.2) _ _
theorem next_L (s : Pot) (signs : List Tx) (row : Tx) (h : 0 < signs.length ∧ (∀ x ∈ signs, isL x) ∧ LowT row) : isL (m_law_next_letter s signs row).1 ∧ (m_law_next_letter s signs row).1.length = 1 := by
  obtain ⟨h1, h2, h3⟩ := h
  have key : isL (m_law_next_letter s signs row).1 := by
    unfold m_law_next_letter m_law_next_letter_c
    refine Ctl.ok_out (p := fun (r : Tx × Pot) => isL r.1) ?_
    have t1 := take_lt s ((List.length signs : Nat) : Int) (by omega)
    have t2 := take_lt (takeP s ((List.length signs : Nat) : Int)).2 26 (by omega)
    refine Ctl.ok_let fun z4 e4 => Ctl.ok_let fun z5 e5 => Ctl.ok_let fun s2 _ => ?_
    have a1 : isL z4 := by rw [e4]; exact h2 _ (ixI_mem (by unfold Ib; omega))
    have a2 : isL z5 := by rw [e5]; exact abc_L t2.1 t2.2
    refine Ctl.ok_if (fun _ => Ctl.ok_rt a1) fun hr => ?_
    have hp := len_pos hr
    have t3 := take_lt s2 (min ((List.length row : Nat) : Int) 5) (by omega)
    refine Ctl.ok_let fun z9 e9 => Ctl.ok_let fun z10 _ => Ctl.ok_let fun z11 e11 => Ctl.ok_rt ?_
    have a3 : isL (ixS row (-(1 : Int))) := low_L h3 (by unfold Ib; omega)
    have a4 : isL z9 := by rw [e9]; exact low_L h3 (by unfold Ib; omega)
    have a5 : isL z11 := by rw [e11]; exact low_L h3 (by unfold Ib; omega)
    have pick : ∀ (l : List Tx) (i : Int), (∀ x ∈ l, isL x) → Ib l.length i → isL (ixI l i) := fun l i hl hi => hl _ (ixI_mem hi)
    refine pick _ _ ?_ (pick_ib _ _ rfl)
    intro x hx
    simp only [List.mem_cons, List.not_mem_nil, or_false] at hx
    rcases hx with e | e | e | e | e
    · rw [e]; exact a1
    · rw [e]; exact a2
    · rw [e]; exact a3
    · rw [e]; exact a4
    · rw [e]; exact a5
  exact ⟨key, by obtain ⟨c, e, _⟩ := key; rw [e]; rfl⟩

def m_law_stands_so_c (keeper_ : Tx) (row_ : Tx) (marks_ : (List Int)) : Ctl Empty Bool Empty :=
  (Ctl.bind (if (!(decide (marks_ = ([] : (List Int))))) = true then (letC ((ixI marks_ (-(1 : Int))) + (1 : Int)) fun (behind_3 : Int) => (.nx behind_3)) else (.nx (0 : Int))) fun (s2 : Int) => (.rt ((decide ((k_row keeper_) = row_)) && ((decide ((cuts keeper_) = marks_)) && (decide ((k_beg keeper_) = s2))))))
def m_law_stands_so (keeper_ : Tx) (row_ : Tx) (marks_ : (List Int)) : Bool := (m_law_stands_so_c keeper_ row_ marks_).out Empty.elim

theorem so_k (k : Tx) : m_law_stands_so k k (cuts k) = true := by
  unfold m_law_stands_so m_law_stands_so_c
  refine Ctl.ok_out (p := fun r => r = true) ?_
  refine Ctl.ok_bind (fun s => s = (beg k : Int)) ?_ fun s hs => Ctl.ok_rt ?_
  · have hb := begin_eq k
    by_cases e : cuts k = []
    · rw [if_neg (by simp [e])]
      rw [if_pos (decide_eq_true e)] at hb
      exact Ctl.ok_nx hb
    · rw [if_pos (by simp [e])]
      rw [if_neg (by simp [e])] at hb
      exact Ctl.ok_let fun y hy => Ctl.ok_nx (hy.trans hb)
  · subst hs
    have : k_beg k = (beg k : Int) := rfl
    simp [k_row, this]
theorem grown_no {p : Pot} {signs : List Tx} {k : Tx} {t : Tx × List Int} {l : Tx} {more : List Int} (h : 0 < signs.length ∧ (∀ x ∈ signs, isL x) ∧ LowT k) (ht : t = ixI (momsOf k) (-(1 : Int))) (hl : l = (m_law_next_letter p signs t.1).1) (hm : more = cuts (k_put k l).2)
    (hc : ((!(decide (more = t.2))) && (!(decide (more = (t.2 ++ ([((List.length t.1 : Nat) : Int)] : List Int)))))) = true) : False := by
  have ht : t = (k, cuts k) := ht.trans (moms_last k)
  subst ht
  have hL := next_L p signs k h
  obtain ⟨c, hlc, _⟩ := hL.1
  have hl : l = [c] := hl.trans hlc
  subst hl
  have hm : more = cuts (k ++ [c]) := hm
  rw [cuts_snoc] at hm
  split at hm
  · simp [hm] at hc
  · simp [hm] at hc
theorem grown_step {p : Pot} {signs : List Tx} {k k0 : Tx} {n : Nat} {t : Tx × List Int} {l : Tx} {more : List Int} (h : 0 < signs.length ∧ (∀ x ∈ signs, isL x) ∧ LowT k) (i1 : k.length = k0.length + n) (i4 : k.take k0.length = k0) (ht : t = ixI (momsOf k) (-(1 : Int))) (hl : l = (m_law_next_letter p signs t.1).1) (hm : more = cuts (k_put k l).2) :
    (k_put k l).2.length = k0.length + (n + 1) ∧ momsOf k ++ [((t.1 ++ l), more)] = momsOf (k_put k l).2 ∧ LowT (k_put k l).2 ∧ (k_put k l).2.take k0.length = k0 := by
  have ht : t = (k, cuts k) := ht.trans (moms_last k)
  subst ht
  have hL := next_L p signs k h
  obtain ⟨c, hlc, _⟩ := hL.1
  have hl : l = [c] := hl.trans hlc
  rw [hlc] at hL
  subst hl
  have hm : more = cuts (k ++ [c]) := hm
  subst hm
  refine ⟨?_, (moms_snoc k c).symm, LowT_app h.2.2 hL.1, ?_⟩
  · show (k ++ [c]).length = _
    rw [List.length_append, List.length_singleton]; omega
  · show (k ++ [c]).take k0.length = k0
    rw [List.take_append_of_le_length (by omega)]; exact i4
theorem back_pre {k0 : Tx} {many : Int} (hp : 0 ≤ many) {s : Tx × List (Tx × List Int)} (hI : s.2 = momsOf s.1 ∧ s.1.length ≤ k0.length ∧ s.1 = k0.take s.1.length) (hc : (decide ((many + (1 : Int)) < ((List.length s.2 : Nat) : Int))) = true) :
    ixI s.2 (-1 : Int) = (s.1, cuts s.1) ∧ 0 < s.1.length ∧ Ib (List.length (List.dropLast s.2)) (-(1 : Int)) ∧ s.2 ≠ [] ∧ (s.1.length ≤ 60 → ((ixI (List.dropLast s.2) (-(1 : Int)))).1.length ≤ 60 ∧ ((ixI (List.dropLast s.2) (-(1 : Int)))).2.length ≤ 60) := by
  obtain ⟨k, mo⟩ := s
  obtain ⟨i1, i2, i3⟩ := hI
  have i1 : mo = momsOf k := i1
  subst i1
  have hc := of_decide_eq_true hc
  rw [moms_len] at hc
  have hp0 : 0 < k.length := by omega
  obtain ⟨r, c, rfl⟩ : ∃ r c, k = r ++ [c] := ⟨k.dropLast, k.getLast (List.length_pos_iff.mp hp0), (List.dropLast_concat_getLast _).symm⟩
  refine ⟨moms_last _, hp0, ?_, ?_, fun h60 => ?_⟩
  · show Ib (List.length (List.dropLast (momsOf (r ++ [c])))) _
    rw [moms_drop, moms_len]; unfold Ib; omega
  · intro e
    have := moms_len (r ++ [c])
    rw [show momsOf (r ++ [c]) = [] from e] at this
    simp at this
  · show ((ixI (List.dropLast (momsOf (r ++ [c]))) (-(1 : Int)))).1.length ≤ 60 ∧ _
    have e : ixI (List.dropLast (momsOf (r ++ [c]))) (-(1 : Int)) = (r, cuts r) := by rw [moms_drop]; exact moms_last r
    rw [e]
    have h60 : (r ++ [c]).length ≤ 60 := h60
    rw [List.length_append, List.length_singleton] at h60
    have := cuts_len r
    exact ⟨by show r.length ≤ 60; omega, by show (cuts r).length ≤ 60; omega⟩
theorem back_step {k0 : Tx} {many : Int} (hp : 0 ≤ many) {s s' : Tx × List (Tx × List Int)} (hI : s.2 = momsOf s.1 ∧ s.1.length ≤ k0.length ∧ s.1 = k0.take s.1.length) (hc : (decide ((many + (1 : Int)) < ((List.length s.2 : Nat) : Int))) = true)
    (h : (letC (ixI s.2 (-1 : Int)) fun (t_4 : (Tx × (List Int))) => (if (!(decide ((k_take s.1).1 = (ixS t_4.1 (-(1 : Int)))))) = true then (.rt (false, ((k_take s.1).2, (List.dropLast s.2)))) else (if (!(m_law_stands_so (k_take s.1).2 ((ixI (List.dropLast s.2) (-(1 : Int)))).1 ((ixI (List.dropLast s.2) (-(1 : Int)))).2)) = true then (.rt (false, ((k_take s.1).2, (List.dropLast s.2)))) else (.nx ((k_take s.1).2, (List.dropLast s.2)))))
      : Ctl (Tx × List (Tx × List Int)) (Bool × Tx × List (Tx × List Int)) Empty) = .nx s') : (s'.2 = momsOf s'.1 ∧ s'.1.length ≤ k0.length ∧ s'.1 = k0.take s'.1.length) ∧ s'.1.length < s.1.length := by
  have hb := back_pre hp hI hc
  obtain ⟨k, mo⟩ := s
  obtain ⟨i1, i2, i3⟩ := hI
  have i1 : mo = momsOf k := i1
  subst i1
  have hp0 : 0 < k.length := hb.2.1
  obtain ⟨r, c, rfl⟩ : ∃ r c, k = r ++ [c] := ⟨k.dropLast, k.getLast (List.length_pos_iff.mp hp0), (List.dropLast_concat_getLast _).symm⟩
  refine Ctl.nx_ok (fun s' => (s'.2 = momsOf s'.1 ∧ s'.1.length ≤ k0.length ∧ s'.1 = k0.take s'.1.length) ∧ s'.1.length < (r ++ [c]).length) h ?_
  have i2 : (r ++ [c]).length ≤ k0.length := i2
  have i3 : r ++ [c] = k0.take (r ++ [c]).length := i3
  rw [List.length_append, List.length_singleton] at i2 i3
  refine Ctl.ok_let fun t _ => Ctl.ok_if (fun _ => trivial) fun _ => Ctl.ok_if (fun _ => trivial) fun _ => Ctl.ok_nx ?_
  have e : (k_take (r ++ [c])).2 = r := by unfold k_take; simp
  show ((List.dropLast (momsOf (r ++ [c]))) = momsOf (k_take (r ++ [c])).2 ∧ (k_take (r ++ [c])).2.length ≤ k0.length ∧ (k_take (r ++ [c])).2 = k0.take (k_take (r ++ [c])).2.length) ∧ (k_take (r ++ [c])).2.length < (r ++ [c]).length
  rw [e, moms_drop]
  refine ⟨⟨rfl, by omega, ?_⟩, by rw [List.length_append, List.length_singleton]; omega⟩
  have := congrArg (List.take r.length) i3
  rw [List.take_take, List.take_append_of_le_length (Nat.le_refl _), List.take_length] at this
  rw [Nat.min_eq_left (by omega)] at this
  exact this

def m_law_grown_c (state_ : Pot) (keeper_ : Tx) (moments_ : (List (Tx × (List Int)))) (many_ : Int) : Ctl Empty (Bool × Pot × Tx × (List (Tx × (List Int)))) Empty :=
  (letC (m_law_some_signs state_).1 fun (signs_3 : (List Tx)) => (Ctl.bind (forC (irange 0 many_) ((m_law_some_signs state_).2, keeper_, moments_) (fun (s7 : Pot × Tx × List (Tx × (List Int))) (x4 : Int) => (letC (ixI s7.2.2 (-(1 : Int))) fun (t_9 : (Tx × (List Int))) => (letC (m_law_next_letter s7.1 signs_3 t_9.1).1 fun (letter_11 : Tx) => (letC (cuts (k_put s7.2.1 letter_11).2) fun (more_13 : (List Int)) => (if ((!(decide (more_13 = t_9.2))) && (!(decide (more_13 = (t_9.2 ++ ([((List.length t_9.1 : Nat) : Int)] : List Int)))))) = true then (.rt (false, ((m_law_next_letter s7.1 signs_3 t_9.1).2, (k_put s7.2.1 letter_11).2, s7.2.2))) else (.nx ((m_law_next_letter s7.1 signs_3 t_9.1).2, (k_put s7.2.1 letter_11).2, (s7.2.2 ++ [((t_9.1 ++ letter_11), more_13)]))))))))) fun (s7 : Pot × Tx × List (Tx × (List Int))) => (.rt (true, (s7.1, s7.2.1, s7.2.2)))))
def m_law_grown (state_ : Pot) (keeper_ : Tx) (moments_ : (List (Tx × (List Int)))) (many_ : Int) : (Bool × Pot × Tx × (List (Tx × (List Int)))) := (m_law_grown_c state_ keeper_ moments_ many_).out Empty.elim

theorem grown_k {s : Pot} {k : Tx} {n : Int} (h2 : LowT k) (h3 : 0 ≤ n) : (m_law_grown s k (momsOf k) n).1 = true ∧ (m_law_grown s k (momsOf k) n).2.2.2 = momsOf (m_law_grown s k (momsOf k) n).2.2.1 ∧ ((m_law_grown s k (momsOf k) n).2.2.1.length : Int) = k.length + n ∧ LowT (m_law_grown s k (momsOf k) n).2.2.1 ∧ (m_law_grown s k (momsOf k) n).2.2.1.take k.length = k := by
  unfold m_law_grown m_law_grown_c
  refine Ctl.ok_out (p := fun (r : Bool × Pot × Tx × List (Tx × List Int)) => r.1 = true ∧ r.2.2.2 = momsOf r.2.2.1 ∧ (r.2.2.1.length : Int) = k.length + n ∧ LowT r.2.2.1 ∧ r.2.2.1.take k.length = k) ?_
  refine Ctl.ok_let fun signs hs => ?_
  have hsg : 0 < signs.length ∧ (∀ x ∈ signs, isL x) := by rw [hs]; exact ⟨(signs_len _).1, signs_L _⟩
  refine Ctl.ok_bind (fun s => s.2.1.length = k.length + n.toNat ∧ s.2.2 = momsOf s.2.1 ∧ LowT s.2.1 ∧ s.2.1.take k.length = k) ?_ fun s hs => Ctl.ok_rt ⟨rfl, hs.2.1, by have := hs.1; show (s.2.1.length : Int) = _; omega, hs.2.2.1, hs.2.2.2⟩
  refine Ctl.ok_for0 (fun j s => s.2.1.length = k.length + j ∧ s.2.2 = momsOf s.2.1 ∧ LowT s.2.1 ∧ s.2.1.take k.length = k) ⟨rfl, rfl, h2, List.take_length⟩ (fun j x s hx hI => ?_) fun s hs => ?_
  · obtain ⟨p, k', mo⟩ := s
    obtain ⟨i1, i2, i3, i4⟩ := hI
    have i2 : mo = momsOf k' := i2
    subst i2
    refine Ctl.ok_let fun t ht => Ctl.ok_let fun l hl => Ctl.ok_let fun more hm => Ctl.ok_if (fun hc => ?_) fun _ => Ctl.ok_nx ?_
    · exfalso
      exact grown_no (k := k') ⟨hsg.1, hsg.2, i3⟩ ht hl hm hc
    · exact grown_step (k := k') ⟨hsg.1, hsg.2, i3⟩ i1 i4 ht hl hm
  · rw [irange_len] at hs
    have : (n - 0).toNat = n.toNat := by omega
    rw [this] at hs
    exact hs
def growP (s : Pot) (k mo : Tx) (n : Int) : Bool × Pot × Tx × Tx := (true, (m_law_grown s k (momsOf k) n).2.1, (m_law_grown s k (momsOf k) n).2.2.1, (m_law_grown s k (momsOf k) n).2.2.1)
theorem growP_f (s : Pot) (k mo : Tx) (n : Int) (h : mo = k ∧ LowT k ∧ 0 ≤ n ∧ (k.length : Int) + n ≤ 60) : (growP s k mo n).2.2.2 = (growP s k mo n).2.2.1 ∧ ((growP s k mo n).2.2.1.length : Int) = k.length + n ∧ LowT (growP s k mo n).2.2.1 ∧ (growP s k mo n).2.2.1.take k.length = k := by
  have g := grown_k (s := s) (n := n) h.2.1 h.2.2.1
  exact ⟨rfl, g.2.2.1, g.2.2.2.1, g.2.2.2.2⟩

def m_law_back_to_c (keeper_ : Tx) (moments_ : (List (Tx × (List Int)))) (many_ : Int) : Ctl Empty (Bool × Tx × (List (Tx × (List Int)))) Empty :=
  (Ctl.bind (whileC (fun (s1 : Tx × List (Tx × (List Int))) => (decide ((many_ + (1 : Int)) < ((List.length s1.2 : Nat) : Int)))) (fun (s1 : Tx × List (Tx × (List Int))) => (letC (ixI s1.2 (-1 : Int)) fun (t_4 : (Tx × (List Int))) => (if (!(decide ((k_take s1.1).1 = (ixS t_4.1 (-(1 : Int)))))) = true then (.rt (false, ((k_take s1.1).2, (List.dropLast s1.2)))) else (if (!(m_law_stands_so (k_take s1.1).2 ((ixI (List.dropLast s1.2) (-(1 : Int)))).1 ((ixI (List.dropLast s1.2) (-(1 : Int)))).2)) = true then (.rt (false, ((k_take s1.1).2, (List.dropLast s1.2)))) else (.nx ((k_take s1.1).2, (List.dropLast s1.2))))))) ((61) + 1) (keeper_, moments_)) fun (s1 : Tx × List (Tx × (List Int))) => (.rt (true, (s1.1, s1.2))))
def m_law_back_to (keeper_ : Tx) (moments_ : (List (Tx × (List Int)))) (many_ : Int) : (Bool × Tx × (List (Tx × (List Int)))) := (m_law_back_to_c keeper_ moments_ many_).out Empty.elim

theorem back_k {k : Tx} {many : Int} (h3 : 0 ≤ many) (h4 : many ≤ k.length) (h60 : k.length ≤ 60) : m_law_back_to k (momsOf k) many = (true, k.take many.toNat, momsOf (k.take many.toNat)) := by
  unfold m_law_back_to m_law_back_to_c
  refine Ctl.ok_out (p := fun (r : Bool × Tx × List (Tx × List Int)) => r = (true, k.take many.toNat, momsOf (k.take many.toNat))) ?_
  refine Ctl.ok_bind (fun s => s = (k.take many.toNat, momsOf (k.take many.toNat))) ?_ fun s hs => Ctl.ok_rt (by rw [hs])
  refine Ctl.ok_while (fun s => s.2 = momsOf s.1 ∧ s.1.length ≤ k.length ∧ s.1 = k.take s.1.length ∧ many ≤ s.1.length) (fun s => s.1.length) (fun s hI hc => ?_) (fun s hI hc => ?_) _ _ ⟨rfl, Nat.le_refl _, List.take_length.symm, h4⟩ (by show k.length < 61 + 1; omega)
  · obtain ⟨a, mo⟩ := s
    obtain ⟨i1, i2, i3, i4⟩ := hI
    have i1 : mo = momsOf a := i1
    subst i1
    have hb := back_pre (k0 := k) (s := (a, momsOf a)) h3 ⟨rfl, i2, i3⟩ hc
    have hp0 : 0 < a.length := hb.2.1
    have hc := of_decide_eq_true hc
    rw [moms_len] at hc
    obtain ⟨r, c, rfl⟩ : ∃ r c, a = r ++ [c] := ⟨a.dropLast, a.getLast (List.length_pos_iff.mp hp0), (List.dropLast_concat_getLast _).symm⟩
    have i2 : (r ++ [c]).length ≤ k.length := i2
    have i3 : r ++ [c] = k.take (r ++ [c]).length := i3
    rw [List.length_append, List.length_singleton] at i2 i3 hc
    have e : (k_take (r ++ [c])).2 = r := by unfold k_take; simp
    refine Ctl.ok_let fun t ht => ?_
    have ht : t = (r ++ [c], cuts (r ++ [c])) := ht.trans (moms_last _)
    subst ht
    have e1 : (k_take (r ++ [c])).1 = ixS (r ++ [c]) (-(1 : Int)) := by
      have := ixI_last r c
      unfold ixI at this
      have e : ixS (r ++ [c]) (-1) = [c] := by unfold ixS; congr 1
      rw [show (-(1 : Int)) = -1 from rfl, e]
      unfold k_take; simp
    refine Ctl.ok_if (fun h => ?_) fun _ => Ctl.ok_if (fun h => ?_) fun _ => Ctl.ok_nx ?_
    · exfalso
      dsimp only at h
      rw [e1] at h
      simp at h
    · exfalso
      dsimp only at h
      rw [moms_drop, show ixI (momsOf r) (-(1 : Int)) = (r, cuts r) from moms_last r, e, so_k] at h
      cases h
    · show ((List.dropLast (momsOf (r ++ [c]))) = momsOf (k_take (r ++ [c])).2 ∧ (k_take (r ++ [c])).2.length ≤ k.length ∧ (k_take (r ++ [c])).2 = k.take (k_take (r ++ [c])).2.length ∧ many ≤ (k_take (r ++ [c])).2.length) ∧ (k_take (r ++ [c])).2.length < (r ++ [c]).length
      rw [e, moms_drop]
      refine ⟨⟨rfl, by omega, ?_, by omega⟩, by rw [List.length_append, List.length_singleton]; omega⟩
      have := congrArg (List.take r.length) i3
      rw [List.take_take, List.take_append_of_le_length (Nat.le_refl _), List.take_length] at this
      rw [Nat.min_eq_left (by omega)] at this
      exact this
  · obtain ⟨a, mo⟩ := s
    obtain ⟨i1, i2, i3, i4⟩ := hI
    have i1 : mo = momsOf a := i1
    subst i1
    have hc := of_decide_eq_false hc
    rw [moms_len] at hc
    have i4 : many ≤ a.length := i4
    have ea : a.length = many.toNat := by omega
    have i3 : a = k.take a.length := i3
    rw [ea] at i3
    show (a, momsOf a) = _
    rw [← i3]
def backP (k mo : Tx) (many : Int) : Bool × Tx × Tx := (true, k.take many.toNat, k.take many.toNat)

theorem backP_f (k mo : Tx) (f : Int) (h : mo = k ∧ k.length ≤ 60 ∧ 0 ≤ f ∧ f ≤ k.length) : ((backP k mo f).2.1.length : Int) = f ∧ (backP k mo f).2.2 = (backP k mo f).2.1 ∧ (LowT k → LowT (backP k mo f).2.1) := by
  refine ⟨?_, rfl, fun hl c hc => hl c (List.mem_of_mem_take hc)⟩
  show ((k.take f.toNat).length : Int) = f
  rw [List.length_take]; omega
theorem grow_have {s : Pot} {k mo z : Tx} {n : Int} (hz : z = (growP s k mo n).2.2.1) (g : (growP s k mo n).2.2.2 = (growP s k mo n).2.2.1 ∧ ((growP s k mo n).2.2.1.length : Int) = k.length + n ∧ LowT (growP s k mo n).2.2.1 ∧ (growP s k mo n).2.2.1.take k.length = k) : (z.length : Int) = k.length + n ∧ LowT z ∧ z.take k.length = k := by
  subst hz; exact g.2
theorem put_step {row s s' x : Tx} {n : Nat} {R X : Type} (hx : (List.map (fun c => ([c] : Tx)) row)[n]? = some x) (hI : s = row.take n) (h : (.nx (k_put s x).2 : Ctl Tx R X) = .nx s') : s' = row.take (n + 1) := by
  injection h with h
  subst h
  rw [List.getElem?_map] at hx
  obtain ⟨c, hc, rfl⟩ := Option.map_eq_some_iff.mp hx
  show s ++ [c] = _
  rw [hI, List.take_succ, hc]; rfl
theorem put_pre2 {row s x : Tx} {n : Nat} (hx : (List.map (fun c => ([c] : Tx)) row)[n]? = some x) (hI : s = row.take n) (hl : LowT row) (h60 : row.length ≤ 60) : s.length < 60 ∧ isL x := by
  rw [List.getElem?_map] at hx
  obtain ⟨c, hc, rfl⟩ := Option.map_eq_some_iff.mp hx
  have := (List.getElem?_eq_some_iff.mp hc).1
  refine ⟨by rw [hI, List.length_take]; omega, c, rfl, hl c (List.mem_of_getElem? hc)⟩

def m_law_words_met_c (keeper_ : Tx) (row_ : Tx) (marks_ : (List Int)) : Ctl Empty Bool Empty :=
  (Ctl.bind (forC (irange 0 ((List.length row_ : Nat) : Int)) () (fun (s4 : Unit) (x1 : Int) => (Ctl.bind (forC ([(1 : Int), (2 : Int), (3 : Int), (((List.length row_ : Nat) : Int) - x1), ((((List.length row_ : Nat) : Int) - x1) / (2 : Int))] : List Int) () (fun (s9 : Unit) (x6 : Int) => (letC (cut row_ (some x1) (some (x1 + (max (1 : Int) x6)))) fun (word_12 : Tx) => (if ((k_over keeper_ word_12)).isNone = true then (.rt false) else (if (!(decide ((cut row_ (some (Option.getD (k_over keeper_ word_12) 0)) (some ((Option.getD (k_over keeper_ word_12) 0) + ((List.length word_12 : Nat) : Int)))) = word_12))) = true then (.rt false) else (if (!(List.any (List.map (fun x16 => (decide ((Option.getD (k_over keeper_ word_12) 0) ≤ x16) && decide (x16 < ((Option.getD (k_over keeper_ word_12) 0) + ((List.length word_12 : Nat) : Int))))) marks_) id)) = true then (.rt false) else (.nx ()))))))) fun (s9 : Unit) => (.nx ())))) fun (s4 : Unit) => (.rt true))
def m_law_words_met (keeper_ : Tx) (row_ : Tx) (marks_ : (List Int)) : Bool := (m_law_words_met_c keeper_ row_ marks_).out Empty.elim

theorem over_k {row w : Tx} (hw : 0 < w.length) (ho : ∃ i, i + w.length ≤ row.length ∧ (row.drop i).take w.length = w) : ∃ v : Nat, k_over row w = some (v : Int) ∧ (row.drop v).take w.length = w ∧ ∃ m ∈ cuts row, (v : Int) ≤ m ∧ m < (v : Int) + w.length := by
  unfold k_over m_over m_over_c
  refine Ctl.ok_out (p := fun (r : Option Int) => ∃ v : Nat, r = some (v : Int) ∧ (row.drop v).take w.length = w ∧ ∃ m ∈ cuts row, (v : Int) ≤ m ∧ m < (v : Int) + w.length) ?_
  refine Ctl.ok_let fun many hmany => Ctl.ok_let fun ah hah => ?_
  subst hmany
  subst hah
  refine Ctl.ok_bind (fun _ => False) ?_ fun _ h => h.elim
  refine Ctl.ok_for0 (fun n _ => ∀ y : Nat, y < n → ¬ ((row.drop y).take w.length = w ∧ ∃ m ∈ cuts row, (y : Int) ≤ m ∧ m < (y : Int) + w.length)) (fun y h => absurd h (Nat.not_lt_zero y)) (fun n x s hx hI => ?_) fun s hs => ?_
  · have hi := irange_at hx
    have ex : x = (n : Int) := by omega
    subst ex
    have hn : n + w.length ≤ row.length := by omega
    have ec : cut row (some (n : Int)) (some ((n : Int) + ((List.length w : Nat) : Int))) = (row.drop n).take w.length := by
      have : ((n : Int) + ((List.length w : Nat) : Int)) = ((n + w.length : Nat) : Int) := by omega
      rw [this, cut_nn]; congr 1; omega
    have e1 := (marks_ahead_at (row := row) (marks := cuts row)).2 n (by omega)
    have e2 := (marks_ahead_at (row := row) (marks := cuts row)).2 (n + w.length) hn
    have e3 : ((n : Int) + ((List.length w : Nat) : Int)) = ((n + w.length : Nat) : Int) := by omega
    rw [ec, e3, e1, e2]
    refine Ctl.ok_if (fun h => Ctl.ok_rt ?_) fun h => Ctl.ok_nx fun y hy => ?_
    · rw [Bool.and_eq_true] at h
      exact ⟨n, rfl, of_decide_eq_true h.2, (cnt_lt _ n w.length).mp (of_decide_eq_true h.1)⟩
    · by_cases e : y < n
      · exact hI y e
      · have : y = n := by omega
        subst this
        rintro ⟨a, b⟩
        rw [decide_eq_true a, decide_eq_true ((cnt_lt _ y w.length).mpr b)] at h
        cases h
  · obtain ⟨i0, ho1, ho2⟩ := ho
    rcases findT_spec row w with ⟨i, e, h1, h2, h3⟩ | ⟨e, h⟩
    · refine hs i ?_ ⟨h2, net_first hw h1 h2 h3⟩
      rw [irange_len]; omega
    · have := h i0 ho2; omega
theorem words_met_k (k : Tx) : m_law_words_met k k (cuts k) = true := by
  unfold m_law_words_met m_law_words_met_c
  refine Ctl.ok_out (p := fun r => r = true) ?_
  refine Ctl.ok_bind (fun _ => True) ?_ fun _ _ => Ctl.ok_rt rfl
  refine Ctl.ok_for0 (fun _ _ => True) trivial (fun n x s hx _ => ?_) fun _ _ => trivial
  refine Ctl.ok_bind (fun _ => True) ?_ fun _ _ => Ctl.ok_nx trivial
  refine Ctl.ok_for0 (fun _ _ => True) trivial (fun n2 x2 s2 hx2 _ => ?_) fun _ _ => trivial
  have hi := irange_at hx
  have ex : x = (n : Int) := by omega
  subst ex
  refine Ctl.ok_let fun w hw => ?_
  obtain ⟨M, hM⟩ := Int.eq_ofNat_of_zero_le (show 0 ≤ max (1 : Int) x2 by omega)
  have hM1 : 1 ≤ M := by omega
  have hw2 : w = (k.drop n).take M := by
    rw [hw, hM]
    have : (n : Int) + (M : Int) = ((n + M : Nat) : Int) := by omega
    rw [this, cut_nn]; congr 1; omega
  have hl : w.length = min M (k.length - n) := by rw [hw2, List.length_take, List.length_drop]
  have hocc : (k.drop n).take w.length = w := by
    rw [hl, hw2]
    by_cases e : M ≤ k.length - n
    · rw [Nat.min_eq_left e]
    · rw [Nat.min_eq_right (by omega), List.take_of_length_le (by rw [List.length_drop]; omega), List.take_of_length_le (by rw [List.length_drop]; omega)]
  obtain ⟨v, e, o1, o2⟩ := over_k (row := k) (w := w) (by omega) ⟨n, by omega, hocc⟩
  rw [e]
  have ec : cut k (some (v : Int)) (some ((v : Int) + ((List.length w : Nat) : Int))) = w := by
    have : ((v : Int) + ((List.length w : Nat) : Int)) = ((v + w.length : Nat) : Int) := by omega
    rw [this, cut_nn]
    have : v + w.length - v = w.length := by omega
    rw [this]; exact o1
  refine Ctl.ok_if (fun h => by cases h) fun _ => Ctl.ok_if (fun h => ?_) fun _ => Ctl.ok_if (fun h => ?_) fun _ => Ctl.ok_nx trivial
  · exfalso
    have h : (!(decide (cut k (some (v : Int)) (some ((v : Int) + ((List.length w : Nat) : Int))) = w))) = true := h
    rw [ec] at h; simp at h
  · exfalso
    have h : (!(List.any (List.map (fun x17 => (decide ((v : Int) ≤ x17) && decide (x17 < ((v : Int) + ((List.length w : Nat) : Int))))) (cuts k)) id)) = true := h
    rw [(any_marks (cuts k) v w.length).mpr o2] at h
    cases h

def m_law_c (script_ : (List Int)) : Ctl Empty Bool Empty :=
  (Ctl.bind (forC (irange 0 (max (1 : Int) (min (12 : Int) ((List.length script_ : Nat) : Int)))) () (fun (s4 : Unit) (x1 : Int) => (if (!(m_law_stands_so ([] : Tx) (tx "") ([] : List Int))) = true then (.rt false) else (if (!(growP (takeP (potP script_ x1) (61 : Int)).2 ([] : Tx) ([] : Tx) (takeP (potP script_ x1) (61 : Int)).1).1) = true then (Ctl.lift (letC (growP (takeP (potP script_ x1) (61 : Int)).2 ([] : Tx) ([] : Tx) (takeP (potP script_ x1) (61 : Int)).1).2.2.2 fun (z13 : Tx) => (letC (growP (takeP (potP script_ x1) (61 : Int)).2 ([] : Tx) ([] : Tx) (takeP (potP script_ x1) (61 : Int)).1).2.2.1 fun (z14 : Tx) => (letC (growP (takeP (potP script_ x1) (61 : Int)).2 ([] : Tx) ([] : Tx) (takeP (potP script_ x1) (61 : Int)).1).2.1 fun (z15 : Pot) => (.rt false))))) else (letC (growP (takeP (potP script_ x1) (61 : Int)).2 ([] : Tx) ([] : Tx) (takeP (potP script_ x1) (61 : Int)).1).2.2.2 fun (z16 : Tx) => (letC (growP (takeP (potP script_ x1) (61 : Int)).2 ([] : Tx) ([] : Tx) (takeP (potP script_ x1) (61 : Int)).1).2.2.1 fun (z17 : Tx) => (letC (growP (takeP (potP script_ x1) (61 : Int)).2 ([] : Tx) ([] : Tx) (takeP (potP script_ x1) (61 : Int)).1).2.1 fun (z18 : Pot) => (letC (ixI (momsOf z16) (-(1 : Int))) fun (t_20 : (Tx × (List Int))) => (if (!(decide (t_20.2 = (cuts t_20.1)))) = true then (.rt false) else (if (!(m_is_net t_20.1 t_20.2)) = true then (.rt false) else (if (!(m_law_words_met z17 t_20.1 t_20.2)) = true then (.rt false) else (letC (takeP z18 (((List.length t_20.1 : Nat) : Int) + (1 : Int))).1 fun (fork_26 : Int) => (letC (takeP z18 (((List.length t_20.1 : Nat) : Int) + (1 : Int))).2 fun (z27 : Pot) => (letC (cut (momsOf z16) none (some (fork_26 + (1 : Int)))) fun (first_ones_28 : (List (Tx × (List Int)))) => (if (!(backP z17 z16 fork_26).1) = true then (.rt false) else (if (!(growP (takeP z27 ((61 : Int) - fork_26)).2 (backP z17 z16 fork_26).2.1 (backP z17 z16 fork_26).2.2 (takeP z27 ((61 : Int) - fork_26)).1).1) = true then (Ctl.lift (letC (growP (takeP z27 ((61 : Int) - fork_26)).2 (backP z17 z16 fork_26).2.1 (backP z17 z16 fork_26).2.2 (takeP z27 ((61 : Int) - fork_26)).1).2.2.2 fun (z34 : Tx) => (letC (growP (takeP z27 ((61 : Int) - fork_26)).2 (backP z17 z16 fork_26).2.1 (backP z17 z16 fork_26).2.2 (takeP z27 ((61 : Int) - fork_26)).1).2.2.1 fun (z35 : Tx) => (letC (growP (takeP z27 ((61 : Int) - fork_26)).2 (backP z17 z16 fork_26).2.1 (backP z17 z16 fork_26).2.2 (takeP z27 ((61 : Int) - fork_26)).1).2.1 fun (z36 : Pot) => (.rt false))))) else (letC (growP (takeP z27 ((61 : Int) - fork_26)).2 (backP z17 z16 fork_26).2.1 (backP z17 z16 fork_26).2.2 (takeP z27 ((61 : Int) - fork_26)).1).2.2.2 fun (z37 : Tx) => (letC (growP (takeP z27 ((61 : Int) - fork_26)).2 (backP z17 z16 fork_26).2.1 (backP z17 z16 fork_26).2.2 (takeP z27 ((61 : Int) - fork_26)).1).2.2.1 fun (z38 : Tx) => (letC (growP (takeP z27 ((61 : Int) - fork_26)).2 (backP z17 z16 fork_26).2.1 (backP z17 z16 fork_26).2.2 (takeP z27 ((61 : Int) - fork_26)).1).2.1 fun (z39 : Pot) => (letC (ixI (momsOf z37) (-(1 : Int))) fun (t_41 : (Tx × (List Int))) => (if (!(decide (t_41.2 = (cuts t_41.1)))) = true then (.rt false) else (if (!(m_is_net t_41.1 t_41.2)) = true then (.rt false) else (Ctl.bind (forC (List.map (fun c => ([c] : Tx)) t_41.1) ([] : Tx) (fun (s49 : Tx) (x46 : Tx) => (.nx (k_put s49 x46).2))) fun (s49 : Tx) => (if (!(m_law_stands_so s49 t_41.1 t_41.2)) = true then (.rt false) else (if (!(backP z38 z37 fork_26).1) = true then (.rt false) else (if (!(decide ((momsOf (backP z38 z37 fork_26).2.2) = first_ones_28))) = true then (.rt false) else (if (!(backP (backP z38 z37 fork_26).2.1 (backP z38 z37 fork_26).2.2 (0 : Int)).1) = true then (Ctl.lift (letC (backP (backP z38 z37 fork_26).2.1 (backP z38 z37 fork_26).2.2 (0 : Int)).2.2 fun (z57 : Tx) => (letC (backP (backP z38 z37 fork_26).2.1 (backP z38 z37 fork_26).2.2 (0 : Int)).2.1 fun (z58 : Tx) => (.rt false)))) else (if (!(m_law_stands_so (backP (backP z38 z37 fork_26).2.1 (backP z38 z37 fork_26).2.2 (0 : Int)).2.1 (tx "") ([] : List Int))) = true then (Ctl.lift (letC (backP (backP z38 z37 fork_26).2.1 (backP z38 z37 fork_26).2.2 (0 : Int)).2.2 fun (z60 : Tx) => (letC (backP (backP z38 z37 fork_26).2.1 (backP z38 z37 fork_26).2.2 (0 : Int)).2.1 fun (z61 : Tx) => (.rt false)))) else (if (!(m_law_stands_so s49 t_41.1 t_41.2)) = true then (Ctl.lift (letC (backP (backP z38 z37 fork_26).2.1 (backP z38 z37 fork_26).2.2 (0 : Int)).2.2 fun (z63 : Tx) => (letC (backP (backP z38 z37 fork_26).2.1 (backP z38 z37 fork_26).2.2 (0 : Int)).2.1 fun (z64 : Tx) => (.rt false)))) else (.nx ())))))))))))))))))))))))))))))) fun (s4 : Unit) => (.rt true))
def m_law (script_ : (List Int)) : Bool := (m_law_c script_).out Empty.elim
theorem rise_cuts (k : Tx) : Rise k.length (cuts k) := by
  refine ⟨?_, cuts_in k⟩
  refine snocI (p := fun k => (cuts k).Pairwise (· < ·)) .nil (fun r c ih => ?_) k
  rw [cuts_snoc]
  split
  · exact ih
  · rw [List.pairwise_append]
    refine ⟨ih, List.pairwise_singleton _ _, fun a ha b hb => ?_⟩
    have h1 := (cuts_in r a ha).2
    have h2 : b = (r.length : Int) := by simpa using hb
    omega
theorem net_cuts (k : Tx) : NetW k (cuts k) := fun q h1 h2 i hi => by
  have hl : ((k.drop i).take q).length = q := by rw [List.length_take, List.length_drop]; omega
  rcases findT_spec k ((k.drop i).take q) with ⟨j, _, a, b, c⟩ | ⟨_, h⟩
  · have := net_first (by omega) a b c
    rw [hl] at a b this
    exact ⟨j, a, b, this⟩
  · have := h i (by rw [hl])
    rw [hl] at this
    omega
theorem is_net_cuts (k : Tx) : m_is_net k (cuts k) = true := is_net_k.mpr ⟨rise_cuts k, net_cuts k⟩
theorem moms_take (k : Tx) (f : Nat) (h : f ≤ k.length) : (momsOf k).take (f + 1) = momsOf (k.take f) := by
  unfold momsOf
  rw [← List.map_take, List.take_range, List.length_take]
  have e1 : min (f + 1) (k.length + 1) = f + 1 := by omega
  have e2 : min f k.length + 1 = f + 1 := by omega
  rw [e1, e2]
  refine List.map_congr_left fun i hi => ?_
  have := List.mem_range.mp hi
  have e : (k.take f).take i = k.take i := by rw [List.take_take, Nat.min_eq_left (by omega)]
  rw [e]
theorem law_true (ns : List Int) (h : ns.length ≤ 63) : m_law ns = true := by
  unfold m_law m_law_c
  refine Ctl.ok_out (p := fun r => r = true) ?_
  refine Ctl.ok_bind (fun _ => True) ?_ fun _ _ => Ctl.ok_rt rfl
  refine Ctl.ok_for0 (fun _ _ => True) trivial (fun n x s hx _ => ?_) fun _ _ => trivial
  have so0 : m_law_stands_so ([] : Tx) (tx "") ([] : List Int) = true := so_k []
  rw [so0]
  refine Ctl.ok_if (fun h => by cases h) fun _ => ?_
  have t1 := take_lt (potP ns x) 61 (by omega)
  have g1 := growP_f (takeP (potP ns x) 61).2 [] [] (takeP (potP ns x) 61).1 ⟨rfl, low_nil, by omega, by simp only [List.length_nil]; omega⟩
  refine Ctl.ok_if (fun h => by cases h) fun _ => ?_
  refine Ctl.ok_let fun mo hmo => Ctl.ok_let fun k hk => Ctl.ok_let fun p hp => Ctl.ok_let fun t ht => ?_
  have e1 : mo = k := hmo.trans (g1.1.trans hk.symm)
  subst e1
  rw [← hk] at g1
  have g1l := g1.2.1
  have hnil : List.length ([] : Tx) = 0 := rfl
  have ht : t = (mo, cuts mo) := ht.trans (moms_last mo)
  subst ht
  refine Ctl.ok_if (fun h => by simp at h) fun _ => Ctl.ok_if (fun h => ?_) fun _ => Ctl.ok_if (fun h => ?_) fun _ => ?_
  · exfalso
    have h : (!(m_is_net mo (cuts mo))) = true := h
    rw [is_net_cuts] at h; cases h
  · exfalso
    have h : (!(m_law_words_met mo mo (cuts mo))) = true := h
    rw [words_met_k] at h; cases h
  refine Ctl.ok_let fun fork hfork => Ctl.ok_let fun p2 hp2 => Ctl.ok_let fun fo hfo => ?_
  have t2 := take_lt p (((List.length mo : Nat) : Int) + 1) (by omega)
  have hfork : fork = (takeP p (((List.length mo : Nat) : Int) + 1)).1 := hfork
  have b1 := backP_f mo mo fork ⟨rfl, by omega, by omega, by omega⟩
  refine Ctl.ok_if (fun h => by cases h) fun _ => ?_
  have t3 := take_lt p2 ((61 : Int) - fork) (by omega)
  have b1l := b1.1
  have g2 := growP_f (takeP p2 ((61 : Int) - fork)).2 (backP mo mo fork).2.1 (backP mo mo fork).2.2 (takeP p2 ((61 : Int) - fork)).1 ⟨b1.2.1, b1.2.2 g1.2.2.1, by omega, by omega⟩
  refine Ctl.ok_if (fun h => by cases h) fun _ => ?_
  refine Ctl.ok_let fun mo2 hmo2 => Ctl.ok_let fun k2 hk2 => Ctl.ok_let fun p3 hp3 => Ctl.ok_let fun t' ht' => ?_
  have e2 : mo2 = k2 := hmo2.trans (g2.1.trans hk2.symm)
  subst e2
  rw [← hk2] at g2
  have g2l := g2.2.1
  have ht' : t' = (mo2, cuts mo2) := ht'.trans (moms_last mo2)
  subst ht'
  refine Ctl.ok_if (fun h => by simp at h) fun _ => Ctl.ok_if (fun h => ?_) fun _ => ?_
  · exfalso
    have h : (!(m_is_net mo2 (cuts mo2))) = true := h
    rw [is_net_cuts] at h; cases h
  refine Ctl.ok_bind (fun s => s = mo2) ?_ fun s hs => ?_
  · refine Ctl.ok_for0 (fun n s => s = mo2.take n) rfl (fun n x s hx hI => Ctl.ok_nx (put_step (R := Bool) (X := Empty) hx hI rfl)) fun s hs => ?_
    rw [hs, List.length_map, List.take_length]
  subst hs
  have hso : m_law_stands_so s s (cuts s) = true := so_k s
  refine Ctl.ok_if (fun h => ?_) fun _ => Ctl.ok_if (fun h => by cases h) fun _ => Ctl.ok_if (fun h => ?_) fun _ => Ctl.ok_if (fun h => by cases h) fun _ => Ctl.ok_if (fun h => ?_) fun _ => Ctl.ok_if (fun h => ?_) fun _ => Ctl.ok_nx trivial
  · exfalso
    have h : (!(m_law_stands_so s s (cuts s))) = true := h
    rw [hso] at h; cases h
  · exfalso
    have hf : fork.toNat ≤ mo.length := by omega
    have e3 : fo = momsOf (mo.take fork.toNat) := by
      rw [hfo]
      have : fork + 1 = ((fork.toNat + 1 : Nat) : Int) := by omega
      rw [this, cut_to, moms_take mo fork.toNat hf]
    have e4 : (backP s s fork).2.2 = mo.take fork.toNat := by
      show s.take fork.toNat = _
      have h5 := g2.2.2.2
      have h6 : (backP mo mo fork).2.1 = mo.take fork.toNat := rfl
      rw [h6, List.length_take, Nat.min_eq_left hf] at h5
      exact h5
    rw [e3, e4] at h
    simp at h
  · exfalso
    have e5 : (backP (backP s s fork).2.1 (backP s s fork).2.2 0).2.1 = [] := rfl
    rw [e5, so0] at h
    cases h
  · exfalso
    have h : (!(m_law_stands_so s s (cuts s))) = true := h
    rw [hso] at h; cases h

def topS (i : Nat) : Stmt := PySem.Challenge.pw_meetstretch_k84_whole_keepers_grow_and_c.main.body.getD i (.Pass ⟨0, 0, 0, 0⟩)
def inC : Stmt → Nat → Stmt
  | .ClassDef (body := b) .., j => b.getD j (.Pass ⟨0, 0, 0, 0⟩)
  | z, _ => z
abbrev s_is_whole : Stmt := topS 5
abbrev s_are_marks : Stmt := topS 6
abbrev s_marks_ahead : Stmt := topS 7
abbrev s_over : Stmt := topS 8
abbrev s_least_lacking : Stmt := topS 10
abbrev s_lacking : Stmt := topS 11
abbrev s_is_net : Stmt := topS 12
abbrev s_stands_earlier : Stmt := topS 14
abbrev s_new_stretches : Stmt := topS 15
abbrev s_first_cutting : Stmt := topS 16
abbrev s_is_letter : Stmt := topS 19
abbrev s_Keeper___init__ : Stmt := inC (topS 20) 0
abbrev s_Keeper_row : Stmt := inC (topS 20) 3
abbrev s_Keeper_marks : Stmt := inC (topS 20) 4
abbrev s_Keeper_begin : Stmt := inC (topS 20) 5
abbrev s_Keeper_over : Stmt := inC (topS 20) 6
abbrev s_Keeper_put : Stmt := inC (topS 20) 1
abbrev s_Keeper_take : Stmt := inC (topS 20) 2
abbrev s__law_take : Stmt := topS 23
abbrev s__law_pot : Stmt := topS 22
abbrev s__law_some_signs : Stmt := topS 24
abbrev s__law_next_letter : Stmt := topS 25
abbrev s__law_stands_so : Stmt := topS 26
abbrev s__law_grown : Stmt := topS 27
abbrev s__law_back_to : Stmt := topS 28
abbrev s__law_words_met : Stmt := topS 29
abbrev s_law : Stmt := topS 30
def d_is_whole : He.DefD := ⟨("is_whole", none), "is_whole", "is_whole", defArgs s_is_whole, defBody s_is_whole, defScope s_is_whole, [], []⟩
def d_are_marks : He.DefD := ⟨("are_marks", none), "are_marks", "are_marks", defArgs s_are_marks, defBody s_are_marks, defScope s_are_marks, [], []⟩
def d_marks_ahead : He.DefD := ⟨("marks_ahead", none), "marks_ahead", "marks_ahead", defArgs s_marks_ahead, defBody s_marks_ahead, defScope s_marks_ahead, [], []⟩
def d_over : He.DefD := ⟨("over_nets", none), "over", "over", defArgs s_over, defBody s_over, defScope s_over, [], []⟩
def d_least_lacking : He.DefD := ⟨("least_lacking", none), "least_lacking", "least_lacking", defArgs s_least_lacking, defBody s_least_lacking, defScope s_least_lacking, [], []⟩
def d_lacking : He.DefD := ⟨("lacking", none), "lacking", "lacking", defArgs s_lacking, defBody s_lacking, defScope s_lacking, [], []⟩
def d_is_net : He.DefD := ⟨("is_net", none), "is_net", "is_net", defArgs s_is_net, defBody s_is_net, defScope s_is_net, [], []⟩
def d_stands_earlier : He.DefD := ⟨("stands_earlier", none), "stands_earlier", "stands_earlier", defArgs s_stands_earlier, defBody s_stands_earlier, defScope s_stands_earlier, [], []⟩
def d_new_stretches : He.DefD := ⟨("new_stretches", none), "new_stretches", "new_stretches", defArgs s_new_stretches, defBody s_new_stretches, defScope s_new_stretches, [], []⟩
def d_first_cutting : He.DefD := ⟨("first_cutting", none), "first_cutting", "first_cutting", defArgs s_first_cutting, defBody s_first_cutting, defScope s_first_cutting, [], []⟩
def d_is_letter : He.DefD := ⟨("is_letter", none), "is_letter", "is_letter", defArgs s_is_letter, defBody s_is_letter, defScope s_is_letter, [], []⟩
def d_Keeper___init__ : He.DefD := ⟨("Keeper", some "__init__"), "__init__", "Keeper.__init__", defArgs s_Keeper___init__, defBody s_Keeper___init__, defScope s_Keeper___init__, [], []⟩
def d_Keeper_row : He.DefD := ⟨("Keeper", some "row"), "row", "Keeper.row", defArgs s_Keeper_row, defBody s_Keeper_row, defScope s_Keeper_row, [], []⟩
def d_Keeper_marks : He.DefD := ⟨("Keeper", some "marks"), "marks", "Keeper.marks", defArgs s_Keeper_marks, defBody s_Keeper_marks, defScope s_Keeper_marks, [], []⟩
def d_Keeper_begin : He.DefD := ⟨("Keeper", some "begin"), "begin", "Keeper.begin", defArgs s_Keeper_begin, defBody s_Keeper_begin, defScope s_Keeper_begin, [], []⟩
def d_Keeper_over : He.DefD := ⟨("Keeper", some "over"), "over", "Keeper.over", defArgs s_Keeper_over, defBody s_Keeper_over, defScope s_Keeper_over, [], []⟩
def d_Keeper_put : He.DefD := ⟨("Keeper", some "put"), "put", "Keeper.put", defArgs s_Keeper_put, defBody s_Keeper_put, defScope s_Keeper_put, [], []⟩
def d_Keeper_take : He.DefD := ⟨("Keeper", some "take"), "take", "Keeper.take", defArgs s_Keeper_take, defBody s_Keeper_take, defScope s_Keeper_take, [], []⟩
def d__law_take : He.DefD := ⟨("_law_take", none), "_law_take", "_law_take", defArgs s__law_take, defBody s__law_take, defScope s__law_take, [], []⟩
def d__law_pot : He.DefD := ⟨("_law_pot", none), "_law_pot", "_law_pot", defArgs s__law_pot, defBody s__law_pot, defScope s__law_pot, [], []⟩
def d__law_some_signs : He.DefD := ⟨("_law_some_signs", none), "_law_some_signs", "_law_some_signs", defArgs s__law_some_signs, defBody s__law_some_signs, defScope s__law_some_signs, [], []⟩
def d__law_next_letter : He.DefD := ⟨("_law_next_letter", none), "_law_next_letter", "_law_next_letter", defArgs s__law_next_letter, defBody s__law_next_letter, defScope s__law_next_letter, [], []⟩
def d__law_stands_so : He.DefD := ⟨("_law_stands_so", none), "_law_stands_so", "_law_stands_so", defArgs s__law_stands_so, defBody s__law_stands_so, defScope s__law_stands_so, [], []⟩
def d__law_grown : He.DefD := ⟨("_law_grown", none), "_law_grown", "_law_grown", defArgs s__law_grown, defBody s__law_grown, defScope s__law_grown, [], []⟩
def d__law_back_to : He.DefD := ⟨("_law_back_to", none), "_law_back_to", "_law_back_to", defArgs s__law_back_to, defBody s__law_back_to, defScope s__law_back_to, [], []⟩
def d__law_words_met : He.DefD := ⟨("_law_words_met", none), "_law_words_met", "_law_words_met", defArgs s__law_words_met, defBody s__law_words_met, defScope s__law_words_met, [], []⟩
def d_law : He.DefD := ⟨("law", none), "law", "law", defArgs s_law, defBody s_law, defScope s_law, [], []⟩
def fn : List He.DefD := [d_is_whole, d_are_marks, d_marks_ahead, d_over, d_least_lacking, d_lacking, d_is_net, d_stands_earlier, d_new_stretches, d_first_cutting, d_is_letter, d_Keeper___init__, d_Keeper_row, d_Keeper_marks, d_Keeper_begin, d_Keeper_over, d_Keeper_put, d_Keeper_take, d__law_take, d__law_pot, d__law_some_signs, d__law_next_letter, d__law_stands_so, d__law_grown, d__law_back_to, d__law_words_met, d_law]
def fa : List He.Fa := [.free "isinstance", .free "int", .free "bool", .glo "is_whole", .free "len", .glo "are_marks", .free "dict", .free "range", .glo "marks_ahead", .glo "over_nets", .free "min", .glo "least_lacking", .glo "lacking", .glo "is_net", .free "any", .glo "stands_earlier", .glo "new_stretches", .glo "first_cutting", .free "str", .glo "is_letter", .glo "Keeper", .cls "Keeper", .mkr "Keeper", .noat "Keeper" "letters", .noat "Keeper" "held", .meth "Keeper" "row", .free "list", .meth "Keeper" "marks", .meth "Keeper" "begin", .meth "Keeper" "over", .glo "NoLetter", .exc "NoLetter", .exm "NoLetter" "NoLetter" true, .int "MOST" 60, .glo "TooMany", .exc "TooMany", .exm "TooMany" "TooMany" true, .meth "Keeper" "put", .meth "Keeper" "take", .glo "_law_take", .free "abs", .glo "_law_pot", .glo "_law_some_signs", .glo "_law_next_letter", .glo "_law_stands_so", .glo "_law_grown", .glo "_law_back_to", .free "max", .glo "_law_words_met", .glo "law"]
theorem txl_0 : (tx "a").length = 1 := by decide +kernel
theorem txl_1 : (tx "z").length = 1 := by decide +kernel
theorem txl_2 : (tx "").length = 0 := by decide +kernel
theorem txl_3 : (tx "abcdefghijklmnopqrstuvwxyz").length = 26 := by decide +kernel
local macro_rules | `(tactic| walk_at "vc") => `(tactic| first | trivial | assumption | omega | (refine And.intro ?_ ?_ <;> omega) | (simp only [Ib, CMul, CPow, ixS_len, setI_len, txl_0, txl_1, txl_2, txl_3,  List.length_append, List.length_map, List.length_cons, List.length_nil, List.length_reverse, irange_len, enum_len, List.length_take, List.length_drop, Bool.and_eq_true, Bool.or_eq_true, Bool.or_eq_false_iff, Bool.not_eq_true', Bool.not_eq_false', decide_eq_true_eq, decide_eq_false_iff_not] at *; first | trivial | omega | (refine ib_last ?_; intro hnil; simp_all [tx_nil]; done) | (refine And.intro ?_ ?_ <;> omega) | (refine Or.inl ?_; omega) | (refine Or.inr ?_; omega)))

section
variable {P : Program} {w : World} {K : Fg} {mg : Str → Option Value} {base : Heap}
def fs_is_whole (K : Fg) : Fs := Fs.mk (Int) Bool Empty (fun (a : Int) => True) (fun (a : Int) => [isa (a : Int)]) (fun a => []) (fun a => pu Bool) (fun a => .rt (m_is_whole a))
abbrev N_is_whole : List Str := ["thing"]
theorem sc_is_whole : FnScope N_is_whole ["thing"] (defScope s_is_whole) := ⟨rfl, rfl, rfl, by decide +kernel, rfl, by decide +kernel, by decide +kernel⟩
set_option maxHeartbeats 4000000 in
theorem ok_is_whole (M : Md fa fn K mg base) : Cal P w K mg base CX0 1 "is_whole" (fs_is_whole K).sp := by
  obtain ⟨fd, F⟩ := M.says.def_ 0 (d := d_is_whole) rfl
  have sc := sc_is_whole
  refine cal_mk (P := P) (w := w) (fs_is_whole K) (N := N_is_whole) F sc (M.gl 3) (FunD.bindsN F fun _ _ _ _ _ _ us hl => match us, hl with | [_], _ => rfl) (fun _ => rfl) (fun a => m_is_whole_c a) (fun _ e => e.elim) (fun _ e => e.elim) (fun cdv A outer s H E hr => ⟨_, pss_cons (ps_ret (pe_and (k_cb (c_isi rfl) (M.fr 0) bt_isinstance (pa_cons (pv 0) (pa_cons (pe_bltn (v := .ty "int") (by rfl) (M.fr 1) bt_int rfl) pa_nil))) (pe_one (pe_not (k_cb (c_isi rfl) (M.fr 0) bt_isinstance (pa_cons (pv 0) (pa_cons (pe_bltn (v := .ty "bool") (by rfl) (M.fr 2) bt_bool rfl) pa_nil))))))) pss_nil, ?_⟩) (fun a _ => out_eq _ _) (fun _ e => e.elim)
  intro (thing_ : Int) ha
  skip
  unfold m_is_whole_c
  show XB _ ⟨[some (isa (thing_ : Int))], []⟩ _ _ ((fun (e : Empty) => e.elim))
  exact b_retS (r := (true && (!false))) (x_and (x_isi (α := Int) true (x_var (R := isa (thing_ : Int))) (by decide +kernel)) (fun hb2 => x_not (x_isi (α := Int) false (x_var (R := isa (thing_ : Int))) (by decide +kernel))))
def fs_are_marks (K : Fg) : Fs := Fs.mk (Tx × (List Int)) Bool Empty (fun (a : Tx × (List Int)) => (a.1).length ≤ 1000 ∧ (a.2).length ≤ 1000) (fun (a : Tx × (List Int)) => [isa (a.1 : Tx), isa (a.2 : (List Int))]) (fun a => []) (fun a => pu Bool) (fun a => .rt (m_are_marks a.1 a.2))
abbrev N_are_marks : List Str := ["row", "thing", "ahead", "mark"]
theorem sc_are_marks : FnScope N_are_marks ["row", "thing"] (defScope s_are_marks) := ⟨rfl, rfl, rfl, by decide +kernel, rfl, by decide +kernel, by decide +kernel⟩
set_option maxHeartbeats 4000000 in
theorem ok_are_marks (M : Md fa fn K mg base) : Cal P w K mg base CX0 2 "are_marks" (fs_are_marks K).sp := by
  obtain ⟨fd, F⟩ := M.says.def_ 1 (d := d_are_marks) rfl
  have sc := sc_are_marks
  refine cal_mk (P := P) (w := w) (fs_are_marks K) (N := N_are_marks) F sc (M.gl 5) (FunD.bindsN F fun _ _ _ _ _ _ us hl => match us, hl with | [_, _], _ => rfl) (fun _ => rfl) (fun a => m_are_marks_c a.1 a.2) (fun _ e => e.elim) (fun _ e => e.elim) (fun cdv A outer s H E hr => ⟨_, pss_cons (ps_set (i := 2) sc.nd rfl (by first | exact Or.inl rfl | exact Or.inr rfl) (pe_un un_neg (pe_int))) (pss_cons (ps_for PassesOwn.never rfl (k_ilist K rfl (pv 1)) (pg_name (i := 3) sc.nd rfl (by first | exact Or.inl rfl | exact Or.inr rfl)) (pss_cons (ps_if (PW.pt (pw_or (pt_not (pt_val (pe_callC (ok_is_whole M) hr (by decide) pass0 (pa_cons (pv 3) (pa_nil))))) (pw_or (pt_cmpR op_le (pv 3) (pv 2) (nomark _)) (pw_or1 (pt_cmpR op_ge (pv 3) (k_cb c_lenZ (M.fr 4) bt_len (pa_cons (pv 0) pa_nil)) (nomark _)))))) (pss_cons (ps_ret (pe_bl)) pss_nil) pss_nil) (pss_cons (ps_set (i := 2) sc.nd rfl (by first | exact Or.inl rfl | exact Or.inr rfl) (pv 3)) (pss_nil)))) (pss_cons (ps_ret (pe_bl)) pss_nil)), ?_⟩) (fun a _ => out_eq _ _) (fun _ e => e.elim)
  intro a ha
  obtain ⟨row_, thing_⟩ := a
  obtain ⟨hp1, hp2⟩ : row_.length ≤ 1000 ∧ thing_.length ≤ 1000 := ha
  unfold m_are_marks_c
  show XB _ ⟨[some (isa (row_ : Tx)), some (isa (thing_ : (List Int))), none, none], []⟩ _ _ ((fun (e : Empty) => e.elim))
  exact b_asg (i := 2) (x_neg (x_int)) (b_forS (α := Int) (xs := thing_) (fun (s4 : Int) => ⟨[some (isa (row_ : Tx)), some (isa (thing_ : (List Int))), some (isa (s4 : Int)), none], []⟩) (-(1 : Int)) (fun (s4 : Int) (x1 : Int) => (if ((!(m_is_whole x1)) || ((decide (x1 ≤ s4)) || (decide (((List.length row_ : Nat) : Int) ≤ x1)))) = true then (.rt false) else (.nx x1))) (fun _ _ => True) (i_list (α := Int) (x_var (R := isa (thing_ : (List Int))))) (g_name (α := Int) (i := 3)) (⟨⟨.inr rfl, .inr rfl, .inr rfl, .inl rfl, trivial⟩, .slnil⟩) (trivial) (fun _ _ _ _ _ _ _ => trivial) (fun n3 x1 s4 hx2 hI5 => have hfx1 := mem_at hx2; b_guard (CE := fun (e : Empty) => e.elim) (t_or (t_not (t_v (x_call (fs := (fs_is_whole K)) (r := (m_is_whole x1)) x1 trivial (a_cons (x_var (R := isa (x1 : Int))) (a_nil))))) (fun hb6 => t_or (t_t (x_le (x_var (R := isa (x1 : Int))) (x_var (R := isa (s4 : Int))))) (fun hb7 => t_t (x_ge (x_var (R := isa (x1 : Int))) (x_lenS (x_var (R := isa (row_ : Tx))) (by walk_at "vc")))))) (fun h9 => b_retS (r := false) (x_bl)) (fun h9 => b_asg (i := 2) (x_var (R := isa (x1 : Int))) (b_nil (⟨⟨.inr rfl, .inr rfl, .inr rfl, .inl rfl, trivial⟩, .slnil⟩)))) (fun s4 hI5 => b_retS (r := true) (x_bl)))
def fs_marks_ahead (K : Fg) : Fs := Fs.mk (Tx × (List Int)) (List Int) Empty (fun (a : Tx × (List Int)) => (a.1).length ≤ 1000 ∧ (a.2).length ≤ 1000) (fun (a : Tx × (List Int)) => [isa (a.1 : Tx), isa (a.2 : (List Int))]) (fun a => []) (fun a => pu (List Int)) (fun a => .rt (m_marks_ahead a.1 a.2))
abbrev N_marks_ahead : List Str := ["row", "marks", "held", "mark", "found", "place"]
theorem sc_marks_ahead : FnScope N_marks_ahead ["row", "marks"] (defScope s_marks_ahead) := ⟨rfl, rfl, rfl, by decide +kernel, rfl, by decide +kernel, by decide +kernel⟩
set_option maxHeartbeats 4000000 in
theorem ok_marks_ahead (M : Md fa fn K mg base) : Cal P w K mg base CX0 1 "marks_ahead" (fs_marks_ahead K).sp := by
  obtain ⟨fd, F⟩ := M.says.def_ 2 (d := d_marks_ahead) rfl
  have sc := sc_marks_ahead
  refine cal_mk (P := P) (w := w) (fs_marks_ahead K) (N := N_marks_ahead) F sc (M.gl 8) (FunD.bindsN F fun _ _ _ _ _ _ us hl => match us, hl with | [_, _], _ => rfl) (fun _ => rfl) (fun a => m_marks_ahead_c a.1 a.2) (fun _ e => e.elim) (fun _ e => e.elim) (fun cdv A outer s H E hr => ⟨_, pss_cons (ps_set (i := 2) sc.nd rfl (by first | exact Or.inl rfl | exact Or.inr rfl) (k_ct (c_dict K rfl rfl) (M.fr 6) bt_dict (pa_cons (pe_lc (own := [("mark", 3)]) (g := gName 3) (tt := tYes) rfl sc.nd (k_ilist K rfl (pv 1)) (blkOk_by (own := [("mark", 3)]) (N := N_marks_ahead) (sc := defScope s_marks_ahead) (by decide +kernel)) (fun _ _ _ _ _ => pg_name (i := 3) sc.nd rfl (by first | exact Or.inl rfl | exact Or.inr rfl)) (fun _ _ _ _ _ => pts_nil) (fun _ _ _ _ _ => pe_tup (pa_cons (pv 3) (pa_cons (pe_bl) (pa_nil))))) pa_nil))) (pss_cons (ps_set (i := 4) sc.nd rfl (by first | exact Or.inl rfl | exact Or.inr rfl) (pe_lst (pa_cons (pe_int) (pa_nil)))) (pss_cons (ps_for PassesOwn.never rfl (pi_range1 rfl (M.fr 7) (pa_cons (k_cb c_lenZ (M.fr 4) bt_len (pa_cons (pv 0) pa_nil)) pa_nil)) (pg_name (i := 5) sc.nd rfl (by first | exact Or.inl rfl | exact Or.inr rfl)) (pss_cons (ps_expr (k_bm K rfl PySem.F.plainAttrs_list PySem.F.slot_list_append PySem.F.type_list_append mt_append (pv 4) (pa_cons (pe_op op_add (k_ixL K rfl (pv 4) (pe_un un_neg (pe_int))) (k_ct c_int1 (M.fr 1) bt_int (pa_cons (pe_cmp (pc_din (hu_of hr) (pv 5) (pv 2)) (by rfl)) pa_nil))) pa_nil))) (pss_nil))) (pss_cons (ps_ret (pv 4)) pss_nil))), ?_⟩) (fun a _ => out_eq _ _) (fun _ e => e.elim)
  intro a ha
  obtain ⟨row_, marks_⟩ := a
  obtain ⟨hp1, hp2⟩ : row_.length ≤ 1000 ∧ marks_.length ≤ 1000 := ha
  unfold m_marks_ahead_c
  show XB _ ⟨[some (isa (row_ : Tx)), some (isa (marks_ : (List Int))), none, none, none, none], []⟩ _ _ ((fun (e : Empty) => e.elim))
  exact b_asgV (i := 2) (XN.frzD (n_dict (κ := Int) (β := Bool) (XN.frz (n_lcU (α := Int) (β := (Int × Bool)) (is := [3]) (up := _) (fun x1 => (x1, true)) (i_list (α := Int) (x_var (R := isa (marks_ : (List Int))))) (g_name (α := Int) (i := 3)) (by decide) (fun n3 x1 hx2 => have hfx1 := mem_at hx2; x_tup2 (x := (x1 : Int)) (y := (true : Bool)) (a_cons (x_var (R := isa (x1 : Int))) (a_cons (x_bl) (a_nil)))) (by walk_at "vc"))))) (fun held_4 hheld_4 => b_asgN (i := 4) (n_lst (α := Int) (xs := ([(0 : Int)] : List Int)) (a_cons (x_int) (a_nil)) (by simp only [List.length_cons, List.length_nil]; omega)) (fun p_found5 => b_forS (α := Int) (xs := (irange 0 ((List.length row_ : Nat) : Int))) (fun (s9 : List Int) => ⟨[some (isa (row_ : Tx)), some (isa (marks_ : (List Int))), some (isa (held_4 : (Dc Int Bool))), none, some (isr p_found5), none], [lstC p_found5 (s9 : List Int)]⟩) ([(0 : Int)] : List Int) (fun (s9 : List Int) (x6 : Int) => (.nx (s9 ++ [((ixI s9 (-(1 : Int))) + (b2z (dhas (held_4).l x6)))]))) (fun n s => (([(0 : Int)] : List Int)).length ≤ (s).length ∧ (s).length ≤ (([(0 : Int)] : List Int)).length + 1 * n) (i_rng1 (a_cons (x_lenS (x_var (R := isa (row_ : Tx))) (by walk_at "vc")) a_nil) (by walk_at "vc") (by walk_at "vc")) (g_name (α := Int) (i := 5)) (⟨⟨.inr rfl, .inr rfl, .inr rfl, .inl rfl, .inr rfl, .inl rfl, trivial⟩, .cons₂ _ (.slnil)⟩) (by (try dsimp only); simp only [List.length_append, List.length_cons, List.length_nil]; omega) (fun n x s s' hx hI h => by (try dsimp only at h); (repeat' split at h); all_goals first | (cases h; done) | (injection h with h; subst h; (try dsimp only); simp only [List.length_append, List.length_cons, List.length_nil] at *; omega) | (injection h with h; subst h; (try dsimp only); simp only [List.length_append, List.length_cons, List.length_nil] at *; omega)) (fun n8 x6 s9 hx7 hI10 => have hfx6 := irange_at hx7; b_app (α := Int) (xs := s9) (p := p_found5) 0 (x_var (R := isr p_found5)) (x_add (x_ixO (α := Int) (xs := s9) (p := p_found5) 0 (x_var (R := isr p_found5)) (x_neg (x_int)) (by walk_at "vc")) (x_intB (x_inD (x_var (R := isa (x6 : Int))) (x_var (R := isa (held_4 : (Dc Int Bool))))))) (by walk_at "vc") (b_nil (⟨⟨.inr rfl, .inr rfl, .inr rfl, .inl rfl, .inr rfl, .inl rfl, trivial⟩, .cons₂ _ (.slnil)⟩))) (fun s9 hI10 => b_retS (r := s9) (x_frz (α := Int) (xs := s9) (p := p_found5) 0))))
def fs_over (K : Fg) : Fs := Fs.mk (Tx × (List Int) × Tx) (Option Int) Empty (fun (a : Tx × (List Int) × Tx) => (a.1).length ≤ 60 ∧ (a.2.1).length ≤ 100 ∧ (a.2.2).length ≤ 1000) (fun (a : Tx × (List Int) × Tx) => [isa (a.1 : Tx), isa (a.2.1 : (List Int)), isa (a.2.2 : Tx)]) (fun a => []) (fun a => pu (Option Int)) (fun a => .rt (m_over a.1 a.2.1 a.2.2))
abbrev N_over : List Str := ["row", "marks", "word", "many", "ahead", "place"]
theorem sc_over : FnScope N_over ["row", "marks", "word"] (defScope s_over) := ⟨rfl, rfl, rfl, by decide +kernel, rfl, by decide +kernel, by decide +kernel⟩
set_option maxHeartbeats 4000000 in
theorem ok_over (M : Md fa fn K mg base) : Cal P w K mg base CX0 2 "over_nets" (fs_over K).sp := by
  obtain ⟨fd, F⟩ := M.says.def_ 3 (d := d_over) rfl
  have sc := sc_over
  refine cal_mkQ (P := P) (w := w) (fs_over K) (N := N_over) F sc (M.gl 9) (FunD.bindsN F fun _ _ _ _ _ _ us hl => match us, hl with | [_, _, _], _ => rfl) (fun _ => rfl) (fun a => m_over_c a.1 a.2.1 a.2.2) (fun _ e => e.elim) (fun _ e => e.elim) (fun cdv A outer s H E hr => ⟨_, pss_cons (ps_set (i := 3) sc.nd rfl (by first | exact Or.inl rfl | exact Or.inr rfl) (k_cb c_lenZ (M.fr 4) bt_len (pa_cons (pv 2) pa_nil))) (pss_cons (ps_set (i := 4) sc.nd rfl (by first | exact Or.inl rfl | exact Or.inr rfl) (pe_callC (ok_marks_ahead M) hr (by decide) pass0 (pa_cons (pv 0) (pa_cons (pv 1) (pa_nil))))) (pss_cons (ps_for PassesOwn.never rfl (pi_range1 rfl (M.fr 7) (pa_cons (pe_op op_add (pe_op op_sub (k_cb c_lenZ (M.fr 4) bt_len (pa_cons (pv 0) pa_nil)) (pv 3)) (pe_int)) pa_nil)) (pg_name (i := 5) sc.nd rfl (by first | exact Or.inl rfl | exact Or.inr rfl)) (pss_cons (ps_if (PW.pt (pw_and (pt_cmpR op_gt (k_ixL K rfl (pv 4) (pe_op op_add (pv 5) (pv 3))) (k_ixL K rfl (pv 4) (pv 5)) (nomark _)) (pw_and1 (pt_cmpR (op_eqT hr) (k_slS (pv 0) (po_some (pv 5)) (po_some (pe_op op_add (pv 5) (pv 3)))) (pv 2) (nomark _))))) (pss_cons (ps_ret (pv 5)) pss_nil) pss_nil) (pss_nil))) (pss_cons (ps_ret (pe_non)) pss_nil))), ?_⟩) (fun a _ => out_eq _ _) (fun _ e => e.elim)
  intro a ha
  obtain ⟨row_, marks_, word_⟩ := a
  obtain ⟨hp1, hp2, hp3⟩ : row_.length ≤ 60 ∧ marks_.length ≤ 100 ∧ word_.length ≤ 1000 := ha
  unfold m_over_c
  show XB _ ⟨[some (isa (row_ : Tx)), some (isa (marks_ : (List Int))), some (isa (word_ : Tx)), none, none, none], []⟩ _ _ ((fun (e : Empty) => e.elim))
  exact b_asgV (i := 3) (x_lenS (x_var (R := isa (word_ : Tx))) (by walk_at "vc")) (fun many_1 hmany_1 => have hc2 := marks_ahead_len0 row_ marks_; b_asgV (i := 4) (x_call (fs := (fs_marks_ahead K)) (r := (m_marks_ahead row_ marks_)) (row_, marks_) (show (row_).length ≤ 1000 ∧ (marks_).length ≤ 1000 from (by walk_at "vc")) (a_cons (x_var (R := isa (row_ : Tx))) (a_cons (x_var (R := isa (marks_ : (List Int)))) (a_nil)))) (fun ahead_3 hahead_3 => have hlahead_3 := congrArg List.length hahead_3; b_forS (α := Int) (xs := (irange 0 ((((List.length row_ : Nat) : Int) - many_1) + (1 : Int)))) (fun (s7 : Unit) => ⟨[some (isa (row_ : Tx)), some (isa (marks_ : (List Int))), some (isa (word_ : Tx)), some (isa (many_1 : Int)), some (isa (ahead_3 : (List Int))), none], []⟩) () (fun (s7 : Unit) (x4 : Int) => (if ((decide ((ixI ahead_3 x4) < (ixI ahead_3 (x4 + many_1)))) && (decide ((cut row_ (some x4) (some (x4 + many_1))) = word_))) = true then (.rt (some x4)) else (.nx ()))) (fun _ _ => True) (i_rng1 (a_cons (x_add (x_sub (x_lenS (x_var (R := isa (row_ : Tx))) (by walk_at "vc")) (x_var (R := isa (many_1 : Int)))) (x_int)) a_nil) (by walk_at "vc") (by walk_at "vc")) (g_name (α := Int) (i := 5)) (⟨⟨.inr rfl, .inr rfl, .inr rfl, .inr rfl, .inr rfl, .inl rfl, trivial⟩, .slnil⟩) (trivial) (fun _ _ _ _ _ _ _ => trivial) (fun n6 x4 s7 hx5 hI8 => have hfx4 := irange_at hx5; b_guard (CE := fun (e : Empty) => e.elim) (t_and (t_t (x_gt (x_ixL (α := Int) (x_var (R := isa (ahead_3 : (List Int)))) (x_add (x_var (R := isa (x4 : Int))) (x_var (R := isa (many_1 : Int)))) (by walk_at "vc")) (x_ixL (α := Int) (x_var (R := isa (ahead_3 : (List Int)))) (x_var (R := isa (x4 : Int))) (by walk_at "vc")))) (fun hb9 => have hc10 := cut_len row_ (some x4) (some (x4 + many_1)); t_t (x_eq (α := Tx) (x_slS (x_var (R := isa (row_ : Tx))) (o_some (x_var (R := isa (x4 : Int)))) (o_some (x_add (x_var (R := isa (x4 : Int))) (x_var (R := isa (many_1 : Int))))) (by walk_at "vc")) (x_var (R := isa (word_ : Tx)))))) (fun h12 => b_retS (r := (some x4)) (x_some (α := Int) (x_var (R := isa (x4 : Int))))) (fun h12 => b_nil (⟨⟨.inr rfl, .inr rfl, .inr rfl, .inr rfl, .inr rfl, .inl rfl, trivial⟩, .slnil⟩))) (fun s7 hI8 => b_retS (r := (none : (Option Int))) (x_none (α := Int) (x_non)))))
def fs_least_lacking (K : Fg) : Fs := Fs.mk (Tx × (List Int) × Int) (Option Tx) Empty (fun (a : Tx × (List Int) × Int) => (a.1).length ≤ 1000 ∧ (a.2.1).length = (a.1).length + 1 ∧ 1 ≤ (a.2.2) ∧ (a.2.2) ≤ (a.1).length) (fun (a : Tx × (List Int) × Int) => [isa (a.1 : Tx), isa (a.2.1 : (List Int)), isa (a.2.2 : Int)]) (fun a => []) (fun a => pu (Option Tx)) (fun a => .rt (m_least_lacking a.1 a.2.1 a.2.2))
abbrev N_least_lacking : List Str := ["row", "ahead", "many", "met", "others", "place", "word"]
theorem sc_least_lacking : FnScope N_least_lacking ["row", "ahead", "many"] (defScope s_least_lacking) := ⟨rfl, rfl, rfl, by decide +kernel, rfl, by decide +kernel, by decide +kernel⟩
set_option maxHeartbeats 4000000 in
theorem ok_least_lacking (M : Md fa fn K mg base) : Cal P w K mg base CX0 1 "least_lacking" (fs_least_lacking K).sp := by
  obtain ⟨fd, F⟩ := M.says.def_ 4 (d := d_least_lacking) rfl
  have sc := sc_least_lacking
  refine cal_mk (P := P) (w := w) (fs_least_lacking K) (N := N_least_lacking) F sc (M.gl 11) (FunD.bindsN F fun _ _ _ _ _ _ us hl => match us, hl with | [_, _, _], _ => rfl) (fun _ => rfl) (fun a => m_least_lacking_c a.1 a.2.1 a.2.2) (fun _ e => e.elim) (fun _ e => e.elim) (fun cdv A outer s H E hr => ⟨_, pss_cons (ps_set (i := 3) sc.nd rfl (by first | exact Or.inl rfl | exact Or.inr rfl) (pe_dnewK)) (pss_cons (ps_set (i := 4) sc.nd rfl (by first | exact Or.inl rfl | exact Or.inr rfl) (pe_dnewK)) (pss_cons (ps_for PassesOwn.never rfl (pi_range1 rfl (M.fr 7) (pa_cons (pe_op op_add (pe_op op_sub (k_cb c_lenZ (M.fr 4) bt_len (pa_cons (pv 0) pa_nil)) (pv 2)) (pe_int)) pa_nil)) (pg_name (i := 5) sc.nd rfl (by first | exact Or.inl rfl | exact Or.inr rfl)) (pss_cons (ps_set (i := 6) sc.nd rfl (by first | exact Or.inl rfl | exact Or.inr rfl) (k_slS (pv 0) (po_some (pv 5)) (po_some (pe_op op_add (pv 5) (pv 2))))) (pss_cons (ps_if (pt_cmpR op_gt (k_ixL K rfl (pv 1) (pe_op op_add (pv 5) (pv 2))) (k_ixL K rfl (pv 1) (pv 5)) (nomark _)) (pss_cons (ps_dput (hu_of hr) (pv 3) (pv 6) (pe_bl) rfl) (pss_nil)) (pss_cons (ps_dput (hu_of hr) (pv 4) (pv 6) (pe_bl) rfl) (pss_nil))) (pss_nil)))) (pss_cons (ps_ret (pe_lock (k_minD rfl hr (M.fr 10) (pe_lc (own := [("word", 6)]) (g := gName 6) rfl sc.nd (pi_keys (pv 4)) (blkOk_by (own := [("word", 6)]) (N := N_least_lacking) (sc := defScope s_least_lacking) (by decide +kernel)) (fun _ _ _ _ _ => pg_name (i := 6) sc.nd rfl (by first | exact Or.inl rfl | exact Or.inr rfl)) (fun _ _ _ _ _ => pts_one (pt_cmp (pc_dnotin (hu_of hr) (pv 6) (pv 3)) (by rfl))) (fun _ _ _ _ _ => pv 6))))) pss_nil))), ?_⟩) (fun a _ => out_eq _ _) (fun _ e => e.elim)
  intro a ha
  obtain ⟨row_, ahead_, many_⟩ := a
  obtain ⟨hp1, hp2, hp3, hp4⟩ : row_.length ≤ 1000 ∧ ahead_.length = row_.length + 1 ∧ 1 ≤ many_ ∧ many_ ≤ row_.length := ha
  unfold m_least_lacking_c
  show XB _ ⟨[some (isa (row_ : Tx)), some (isa (ahead_ : (List Int))), some (isa (many_ : Int)), none, none, none, none], []⟩ _ _ ((fun (e : Empty) => e.elim))
  exact b_asgN (i := 3) (n_dic (κ := Tx) (β := Bool)) (fun p_met1 => b_asgN (i := 4) (n_dic (κ := Tx) (β := Bool)) (fun p_others2 => b_forS (α := Int) (xs := (irange 0 ((((List.length row_ : Nat) : Int) - many_) + (1 : Int)))) (fun (s6 : List (Tx × Bool) × List (Tx × Bool)) => ⟨[some (isa (row_ : Tx)), some (isa (ahead_ : (List Int))), some (isa (many_ : Int)), some (isr p_met1), some (isr p_others2), none, none], [dicC p_others2 (s6.1 : List (Tx × Bool)), dicC p_met1 (s6.2 : List (Tx × Bool))]⟩) (([] : List (Tx × Bool)), ([] : List (Tx × Bool))) (fun (s6 : List (Tx × Bool) × List (Tx × Bool)) (x3 : Int) => (letC (cut row_ (some x3) (some (x3 + many_))) fun (word_9 : Tx) => (Ctl.bind (if (decide ((ixI ahead_ x3) < (ixI ahead_ (x3 + many_)))) = true then (.nx ((dput s6.2 word_9 true), s6.1)) else (.nx (s6.2, (dput s6.1 word_9 true)))) fun (s11 : List (Tx × Bool) × List (Tx × Bool)) => (.nx (s11.2, s11.1))))) (fun n s => s.1.length ≤ n ∧ s.2.length ≤ n) (i_rng1 (a_cons (x_add (x_sub (x_lenS (x_var (R := isa (row_ : Tx))) (by walk_at "vc")) (x_var (R := isa (many_ : Int)))) (x_int)) a_nil) (by walk_at "vc") (by walk_at "vc")) (g_name (α := Int) (i := 5)) (⟨⟨.inr rfl, .inr rfl, .inr rfl, .inr rfl, .inr rfl, .inl rfl, .inl rfl, trivial⟩, .cons₂ _ (.cons₂ _ (.slnil))⟩) (⟨Nat.le_refl _, Nat.le_refl _⟩) (fun n x s s' hx hI h => Ctl.nx_ok (fun s => s.1.length ≤ n + 1 ∧ s.2.length ≤ n + 1) h (by
      obtain ⟨i1, i2⟩ := hI
      refine Ctl.ok_let fun w _ => Ctl.ok_bind (fun s => s.1.length ≤ n + 1 ∧ s.2.length ≤ n + 1) (Ctl.ok_if (fun _ => Ctl.ok_nx ?_) fun _ => Ctl.ok_nx ?_) fun s hs => Ctl.ok_nx ⟨hs.2, hs.1⟩
      · have := dput_len s.2 w true
        exact ⟨by show (dput s.2 w true).length ≤ n + 1; omega, by show s.1.length ≤ n + 1; omega⟩
      · have := dput_len s.1 w true
        exact ⟨by show s.2.length ≤ n + 1; omega, by show (dput s.1 w true).length ≤ n + 1; omega⟩)) (fun n5 x3 s6 hx4 hI7 => have hfx3 := irange_at hx4; have hInv := hI7; have hc8 := cut_len row_ (some x3) (some (x3 + many_)); b_asgV (i := 6) (x_slS (x_var (R := isa (row_ : Tx))) (o_some (x_var (R := isa (x3 : Int)))) (o_some (x_add (x_var (R := isa (x3 : Int))) (x_var (R := isa (many_ : Int))))) (by walk_at "vc")) (fun word_9 hword_9 => have hfword_9 := hlen_cut hword_9; have hgword_9 := cut_fact hword_9; have hlword_9 := congrArg List.length hword_9; b_seq (CS := (fun (s11 : List (Tx × Bool) × List (Tx × Bool)) => ⟨[some (isa (row_ : Tx)), some (isa (ahead_ : (List Int))), some (isa (many_ : Int)), some (isr p_met1), some (isr p_others2), some (isa (x3 : Int)), some (isa (word_9 : Tx))], [dicC p_others2 (s11.2 : List (Tx × Bool)), dicC p_met1 (s11.1 : List (Tx × Bool))]⟩)) (b_if (t_t (x_gt (x_ixL (α := Int) (x_var (R := isa (ahead_ : (List Int)))) (x_add (x_var (R := isa (x3 : Int))) (x_var (R := isa (many_ : Int)))) (by walk_at "vc")) (x_ixL (α := Int) (x_var (R := isa (ahead_ : (List Int)))) (x_var (R := isa (x3 : Int))) (by walk_at "vc")))) (fun h10 => b_dput (κ := Tx) (β := Bool) (d := s6.2) 1 (x_bl) (x_var (R := isr p_met1)) (x_var (R := isa (word_9 : Tx))) (by walk_at "vc") (b_nil (⟨⟨.inr rfl, .inr rfl, .inr rfl, .inr rfl, .inr rfl, .inr rfl, .inr rfl, trivial⟩, .cons₂ _ (.cons₂ _ (.slnil))⟩))) (fun h10 => b_dput (κ := Tx) (β := Bool) (d := s6.1) 0 (x_bl) (x_var (R := isr p_others2)) (x_var (R := isa (word_9 : Tx))) (by walk_at "vc") (b_nil (⟨⟨.inr rfl, .inr rfl, .inr rfl, .inr rfl, .inr rfl, .inr rfl, .inr rfl, trivial⟩, .cons₂ _ (.cons₂ _ (.slnil))⟩)))) (fun s11 hs11 => b_nil (⟨⟨.inr rfl, .inr rfl, .inr rfl, .inr rfl, .inr rfl, .inl rfl, .inl rfl, trivial⟩, .cons₂ _ (.cons₂ _ (.slnil))⟩)))) (fun s6 hI7 => have hEnd := hI7; b_retS (r := (minT (List.map (fun x12 => x12) (List.filter (fun x12 => (!dhas ((Dc.mk s6.2)).l x12)) (List.map (fun q => q.1) s6.1))))) (x_lockV (α := (Option Tx)) (y := (minT (List.map (fun x12 => x12) (List.filter (fun x12 => (!dhas ((Dc.mk s6.2)).l x12)) (List.map (fun q => q.1) s6.1))))) (κ := Tx) (β := Bool) (κ2 := Tx) (β2 := Bool) (p := p_others2) (p2 := p_met1) (d := s6.1) (d2 := s6.2) 4 3 0 1 (fun od vs => x_minD (XN.frz (n_lc (α := Tx) (β := Tx) (is := [6]) (up := _) (fun x12 => (!dhas ((Dc.mk s6.2)).l x12)) (fun x12 => x12) (i_keys (κ := Tx) (β := Bool) (d := s6.1) (x_var (R := isK p_others2 od vs s6.1))) (g_name (α := Tx) (i := 6)) (by decide) (fun n14 x12 hx13 => have hfx12 := mem_at hx13; t_v (x_niD (x_var (R := isa (x12 : Tx))) (x_var (R := isa ((Dc.mk s6.2) : (Dc Tx Bool)))))) (fun n14 x12 hx13 hp => have hfx12 := mem_at hx13; x_var (R := isa (x12 : Tx))) (by walk_at "vc"))))))))
def fs_lacking (K : Fg) : Fs := Fs.mk (Tx × (List Int)) (Option Tx) Empty (fun (a : Tx × (List Int)) => (a.1).length ≤ 1000 ∧ (a.2).length ≤ 1000) (fun (a : Tx × (List Int)) => [isa (a.1 : Tx), isa (a.2 : (List Int))]) (fun a => []) (fun a => pu (Option Tx)) (fun a => .rt (m_lacking a.1 a.2))
abbrev N_lacking : List Str := ["row", "marks", "ahead", "many", "word"]
theorem sc_lacking : FnScope N_lacking ["row", "marks"] (defScope s_lacking) := ⟨rfl, rfl, rfl, by decide +kernel, rfl, by decide +kernel, by decide +kernel⟩
set_option maxHeartbeats 4000000 in
theorem ok_lacking (M : Md fa fn K mg base) : Cal P w K mg base CX0 2 "lacking" (fs_lacking K).sp := by
  obtain ⟨fd, F⟩ := M.says.def_ 5 (d := d_lacking) rfl
  have sc := sc_lacking
  refine cal_mk (P := P) (w := w) (fs_lacking K) (N := N_lacking) F sc (M.gl 12) (FunD.bindsN F fun _ _ _ _ _ _ us hl => match us, hl with | [_, _], _ => rfl) (fun _ => rfl) (fun a => m_lacking_c a.1 a.2) (fun _ e => e.elim) (fun _ e => e.elim) (fun cdv A outer s H E hr => ⟨_, pss_cons (ps_set (i := 2) sc.nd rfl (by first | exact Or.inl rfl | exact Or.inr rfl) (pe_callC (ok_marks_ahead M) hr (by decide) pass0 (pa_cons (pv 0) (pa_cons (pv 1) (pa_nil))))) (pss_cons (ps_for PassesOwn.never rfl (pi_range2 rfl (M.fr 7) (pa_cons (pe_int) (pa_cons (pe_op op_add (k_cb c_lenZ (M.fr 4) bt_len (pa_cons (pv 0) pa_nil)) (pe_int)) pa_nil))) (pg_name (i := 3) sc.nd rfl (by first | exact Or.inl rfl | exact Or.inr rfl)) (pss_cons (ps_set (i := 4) sc.nd rfl (by first | exact Or.inl rfl | exact Or.inr rfl) (pe_callC (ok_least_lacking M) hr (by decide) pass0 (pa_cons (pv 0) (pa_cons (pv 2) (pa_cons (pv 3) (pa_nil)))))) (pss_cons (ps_if (pt_cmpR op_notN (pv 4) pe_non (nomark _)) (pss_cons (ps_ret (pv 4)) pss_nil) pss_nil) (pss_nil)))) (pss_cons (ps_ret (pe_non)) pss_nil)), ?_⟩) (fun a _ => out_eq _ _) (fun _ e => e.elim)
  intro a ha
  obtain ⟨row_, marks_⟩ := a
  obtain ⟨hp1, hp2⟩ : row_.length ≤ 1000 ∧ marks_.length ≤ 1000 := ha
  unfold m_lacking_c
  show XB _ ⟨[some (isa (row_ : Tx)), some (isa (marks_ : (List Int))), none, none, none], []⟩ _ _ ((fun (e : Empty) => e.elim))
  exact have hc1 := marks_ahead_len0 row_ marks_; b_asgV (i := 2) (x_call (fs := (fs_marks_ahead K)) (r := (m_marks_ahead row_ marks_)) (row_, marks_) (show (row_).length ≤ 1000 ∧ (marks_).length ≤ 1000 from (by walk_at "vc")) (a_cons (x_var (R := isa (row_ : Tx))) (a_cons (x_var (R := isa (marks_ : (List Int)))) (a_nil)))) (fun ahead_2 hahead_2 => have hlahead_2 := congrArg List.length hahead_2; b_forS (α := Int) (xs := (irange (1 : Int) (((List.length row_ : Nat) : Int) + (1 : Int)))) (fun (s6 : Unit) => ⟨[some (isa (row_ : Tx)), some (isa (marks_ : (List Int))), some (isa (ahead_2 : (List Int))), none, none], []⟩) () (fun (s6 : Unit) (x3 : Int) => (letC (m_least_lacking row_ ahead_2 x3) fun (word_8 : (Option Tx)) => (if (word_8).isSome = true then (.rt word_8) else (.nx ())))) (fun _ _ => True) (i_rng2 (a_cons (x_int) (a_cons (x_add (x_lenS (x_var (R := isa (row_ : Tx))) (by walk_at "vc")) (x_int)) a_nil)) (by refine ⟨?_, ?_, ?_, ?_⟩ <;> (first | omega | walk_at "vc"))) (g_name (α := Int) (i := 3)) (⟨⟨.inr rfl, .inr rfl, .inr rfl, .inl rfl, .inl rfl, trivial⟩, .slnil⟩) (trivial) (fun _ _ _ _ _ _ _ => trivial) (fun n5 x3 s6 hx4 hI7 => have hfx3 := irange_at hx4; b_asgV (i := 4) (x_call (fs := (fs_least_lacking K)) (r := (m_least_lacking row_ ahead_2 x3)) (row_, ahead_2, x3) (show (row_).length ≤ 1000 ∧ (ahead_2).length = (row_).length + 1 ∧ 1 ≤ (x3) ∧ (x3) ≤ (row_).length from (by walk_at "vc")) (a_cons (x_var (R := isa (row_ : Tx))) (a_cons (x_var (R := isa (ahead_2 : (List Int)))) (a_cons (x_var (R := isa (x3 : Int))) (a_nil))))) (fun word_8 hword_8 => b_guard (CE := fun (e : Empty) => e.elim) (t_t (x_notN (x_var (R := isa (word_8 : (Option Tx)))))) (fun h9 => b_retS (r := word_8) (x_var (R := isa (word_8 : (Option Tx))))) (fun h9 => b_nil (⟨⟨.inr rfl, .inr rfl, .inr rfl, .inl rfl, .inl rfl, trivial⟩, .slnil⟩)))) (fun s6 hI7 => b_retS (r := (none : (Option Tx))) (x_none (α := Tx) (x_non))))
def fs_is_net (K : Fg) : Fs := Fs.mk (Tx × (List Int)) Bool Empty (fun (a : Tx × (List Int)) => (a.1).length ≤ 1000 ∧ (a.2).length ≤ 1000) (fun (a : Tx × (List Int)) => [isa (a.1 : Tx), isa (a.2 : (List Int))]) (fun a => []) (fun a => pu Bool) (fun a => .rt (m_is_net a.1 a.2))
abbrev N_is_net : List Str := ["row", "thing"]
theorem sc_is_net : FnScope N_is_net ["row", "thing"] (defScope s_is_net) := ⟨rfl, rfl, rfl, by decide +kernel, rfl, by decide +kernel, by decide +kernel⟩
set_option maxHeartbeats 4000000 in
theorem ok_is_net (M : Md fa fn K mg base) : Cal P w K mg base CX0 3 "is_net" (fs_is_net K).sp := by
  obtain ⟨fd, F⟩ := M.says.def_ 6 (d := d_is_net) rfl
  have sc := sc_is_net
  refine cal_mk (P := P) (w := w) (fs_is_net K) (N := N_is_net) F sc (M.gl 13) (FunD.bindsN F fun _ _ _ _ _ _ us hl => match us, hl with | [_, _], _ => rfl) (fun _ => rfl) (fun a => m_is_net_c a.1 a.2) (fun _ e => e.elim) (fun _ e => e.elim) (fun cdv A outer s H E hr => ⟨_, pss_cons (ps_ret (pe_and (pe_callC (ok_are_marks M) hr (by decide) pass0 (pa_cons (pv 0) (pa_cons (pv 1) (pa_nil)))) (pe_one (pe_cmpR op_isN (pe_callC (ok_lacking M) hr (by decide) pass0 (pa_cons (pv 0) (pa_cons (pv 1) (pa_nil)))) pe_non (nomark _))))) pss_nil, ?_⟩) (fun a _ => out_eq _ _) (fun _ e => e.elim)
  intro a ha
  obtain ⟨row_, thing_⟩ := a
  obtain ⟨hp1, hp2⟩ : row_.length ≤ 1000 ∧ thing_.length ≤ 1000 := ha
  unfold m_is_net_c
  show XB _ ⟨[some (isa (row_ : Tx)), some (isa (thing_ : (List Int)))], []⟩ _ _ ((fun (e : Empty) => e.elim))
  exact b_retS (r := ((m_are_marks row_ thing_) && ((m_lacking row_ thing_)).isNone)) (x_and (x_call (fs := (fs_are_marks K)) (r := (m_are_marks row_ thing_)) (row_, thing_) (show (row_).length ≤ 1000 ∧ (thing_).length ≤ 1000 from (by walk_at "vc")) (a_cons (x_var (R := isa (row_ : Tx))) (a_cons (x_var (R := isa (thing_ : (List Int)))) (a_nil)))) (fun hb2 => x_isN (x_call (fs := (fs_lacking K)) (r := (m_lacking row_ thing_)) (row_, thing_) (show (row_).length ≤ 1000 ∧ (thing_).length ≤ 1000 from (by walk_at "vc")) (a_cons (x_var (R := isa (row_ : Tx))) (a_cons (x_var (R := isa (thing_ : (List Int)))) (a_nil))))))
def fs_stands_earlier (K : Fg) : Fs := Fs.mk (Tx × Int × Int) Bool Empty (fun (a : Tx × Int × Int) => (a.1).length ≤ 2000 ∧ (a.2.1) ≤ 1000 ∧ -1000 ≤ (a.2.1)) (fun (a : Tx × Int × Int) => [isa (a.1 : Tx), isa (a.2.1 : Int), isa (a.2.2 : Int)]) (fun a => []) (fun a => pu Bool) (fun a => .rt (m_stands_earlier a.1 a.2.1 a.2.2))
abbrev N_stands_earlier : List Str := ["row", "begin", "behind", "word", "place"]
theorem sc_stands_earlier : FnScope N_stands_earlier ["row", "begin", "behind"] (defScope s_stands_earlier) := ⟨rfl, rfl, rfl, by decide +kernel, rfl, by decide +kernel, by decide +kernel⟩
set_option maxHeartbeats 4000000 in
theorem ok_stands_earlier (M : Md fa fn K mg base) : Cal P w K mg base CX0 1 "stands_earlier" (fs_stands_earlier K).sp := by
  obtain ⟨fd, F⟩ := M.says.def_ 7 (d := d_stands_earlier) rfl
  have sc := sc_stands_earlier
  refine cal_mk (P := P) (w := w) (fs_stands_earlier K) (N := N_stands_earlier) F sc (M.gl 15) (FunD.bindsN F fun _ _ _ _ _ _ us hl => match us, hl with | [_, _, _], _ => rfl) (fun _ => rfl) (fun a => m_stands_earlier_c a.1 a.2.1 a.2.2) (fun _ e => e.elim) (fun _ e => e.elim) (fun cdv A outer s H E hr => ⟨_, pss_cons (ps_set (i := 3) sc.nd rfl (by first | exact Or.inl rfl | exact Or.inr rfl) (k_slS (pv 0) (po_some (pv 1)) (po_some (pv 2)))) (pss_cons (ps_ret (k_cb (c_any K rfl rfl) (M.fr 14) bt_any (pa_cons (pe_lc (own := [("place", 4)]) (g := gName 4) (tt := tYes) rfl sc.nd (pi_range1 rfl (M.fr 7) (pa_cons (pv 1) pa_nil)) (blkOk_by (own := [("place", 4)]) (N := N_stands_earlier) (sc := defScope s_stands_earlier) (by decide +kernel)) (fun _ _ _ _ _ => pg_name (i := 4) sc.nd rfl (by first | exact Or.inl rfl | exact Or.inr rfl)) (fun _ _ _ _ _ => pts_nil) (fun _ _ _ _ _ => pe_cmpR (op_eqT hr) (k_slS (pv 0) (po_some (pv 4)) (po_some (pe_op op_add (pv 4) (k_cb c_lenZ (M.fr 4) bt_len (pa_cons (pv 3) pa_nil))))) (pv 3) (nomark _))) pa_nil))) pss_nil), ?_⟩) (fun a _ => out_eq _ _) (fun _ e => e.elim)
  intro a ha
  obtain ⟨row_, begin_, behind_⟩ := a
  obtain ⟨hp1, hp2, hp3⟩ : row_.length ≤ 2000 ∧ begin_ ≤ 1000 ∧ -1000 ≤ begin_ := ha
  unfold m_stands_earlier_c
  show XB _ ⟨[some (isa (row_ : Tx)), some (isa (begin_ : Int)), some (isa (behind_ : Int)), none, none], []⟩ _ _ ((fun (e : Empty) => e.elim))
  exact have hc1 := cut_len row_ (some begin_) (some behind_); b_asgV (i := 3) (x_slS (x_var (R := isa (row_ : Tx))) (o_some (x_var (R := isa (begin_ : Int)))) (o_some (x_var (R := isa (behind_ : Int)))) (by walk_at "vc")) (fun word_2 hword_2 => have hfword_2 := hlen_cut hword_2; have hgword_2 := cut_fact hword_2; have hlword_2 := congrArg List.length hword_2; b_retS (r := (List.any (List.map (fun x3 => (decide ((cut row_ (some x3) (some (x3 + ((List.length word_2 : Nat) : Int)))) = word_2))) (irange 0 begin_)) id)) (x_any (XN.frz (n_lcU (α := Int) (β := Bool) (is := [4]) (up := _) (fun x3 => (decide ((cut row_ (some x3) (some (x3 + ((List.length word_2 : Nat) : Int)))) = word_2))) (i_rng1 (a_cons (x_var (R := isa (begin_ : Int))) a_nil) (by walk_at "vc") (by walk_at "vc")) (g_name (α := Int) (i := 4)) (by decide) (fun n5 x3 hx4 => have hfx3 := irange_at hx4; have hc6 := cut_len row_ (some x3) (some (x3 + ((List.length word_2 : Nat) : Int))); x_eq (α := Tx) (x_slS (x_var (R := isa (row_ : Tx))) (o_some (x_var (R := isa (x3 : Int)))) (o_some (x_add (x_var (R := isa (x3 : Int))) (x_lenS (x_var (R := isa (word_2 : Tx))) (by walk_at "vc")))) (by walk_at "vc")) (x_var (R := isa (word_2 : Tx)))) (by rw [irange_len]; omega)))))
def fs_new_stretches (K : Fg) : Fs := Fs.mk (Tx) (List (Int × Int)) Empty (fun (a : Tx) => (a).length ≤ 60) (fun (a : Tx) => [isa (a : Tx)]) (fun a => []) (fun a => pu (List (Int × Int))) (fun a => .rt (m_new_stretches a))
abbrev N_new_stretches : List Str := ["row", "found", "begin", "end"]
theorem sc_new_stretches : FnScope N_new_stretches ["row"] (defScope s_new_stretches) := ⟨rfl, rfl, rfl, by decide +kernel, rfl, by decide +kernel, by decide +kernel⟩
set_option maxHeartbeats 4000000 in
theorem ok_new_stretches (M : Md fa fn K mg base) : Cal P w K mg base CX0 2 "new_stretches" (fs_new_stretches K).sp := by
  obtain ⟨fd, F⟩ := M.says.def_ 8 (d := d_new_stretches) rfl
  have sc := sc_new_stretches
  refine cal_mk (P := P) (w := w) (fs_new_stretches K) (N := N_new_stretches) F sc (M.gl 16) (FunD.bindsN F fun _ _ _ _ _ _ us hl => match us, hl with | [_], _ => rfl) (fun _ => rfl) (fun a => m_new_stretches_c a) (fun _ e => e.elim) (fun _ e => e.elim) (fun cdv A outer s H E hr => ⟨_, pss_cons (ps_set (i := 1) sc.nd rfl (by first | exact Or.inl rfl | exact Or.inr rfl) (pe_lst pa_nil)) (pss_cons (ps_set (i := 2) sc.nd rfl (by first | exact Or.inl rfl | exact Or.inr rfl) (pe_int)) (pss_cons (ps_for PassesOwn.never rfl (pi_range1 rfl (M.fr 7) (pa_cons (k_cb c_lenZ (M.fr 4) bt_len (pa_cons (pv 0) pa_nil)) pa_nil)) (pg_name (i := 3) sc.nd rfl (by first | exact Or.inl rfl | exact Or.inr rfl)) (pss_cons (ps_if (pt_not (pt_val (pe_callC (ok_stands_earlier M) hr (by decide) pass0 (pa_cons (pv 0) (pa_cons (pv 2) (pa_cons (pe_op op_add (pv 3) (pe_int)) (pa_nil))))))) (pss_cons (ps_expr (k_bm K rfl PySem.F.plainAttrs_list PySem.F.slot_list_append PySem.F.type_list_append mt_append (pv 1) (pa_cons (pe_tup (pa_cons (pv 2) (pa_cons (pe_op op_add (pv 3) (pe_int)) (pa_nil)))) pa_nil))) (pss_cons (ps_set (i := 2) sc.nd rfl (by first | exact Or.inl rfl | exact Or.inr rfl) (pe_op op_add (pv 3) (pe_int))) (pss_nil))) (pss_nil)) (pss_nil))) (pss_cons (ps_ret (pv 1)) pss_nil))), ?_⟩) (fun a _ => out_eq _ _) (fun _ e => e.elim)
  intro (row_ : Tx) ha
  have hp1 : row_.length ≤ 60 := ha
  unfold m_new_stretches_c
  show XB _ ⟨[some (isa (row_ : Tx)), none, none, none], []⟩ _ _ ((fun (e : Empty) => e.elim))
  exact b_asgN (i := 1) (n_nil (α := (Int × Int))) (fun p_found1 => b_asg (i := 2) (x_int) (b_forS (α := Int) (xs := (irange 0 ((List.length row_ : Nat) : Int))) (fun (s5 : Int × List (Int × Int)) => ⟨[some (isa (row_ : Tx)), some (isr p_found1), some (isa (s5.1 : Int)), none], [lstC p_found1 (s5.2 : List (Int × Int))]⟩) ((0 : Int), ([] : List (Int × Int))) (fun (s5 : Int × List (Int × Int)) (x2 : Int) => (Ctl.bind (if (!(m_stands_earlier row_ s5.1 (x2 + (1 : Int)))) = true then (.nx ((x2 + (1 : Int)), (s5.2 ++ [(s5.1, (x2 + (1 : Int)))]))) else (.nx (s5.1, s5.2))) fun (s8 : Int × List (Int × Int)) => (.nx (s8.1, s8.2)))) (fun n s => 0 ≤ s.1 ∧ s.1 ≤ n ∧ s.2.length ≤ n) (i_rng1 (a_cons (x_lenS (x_var (R := isa (row_ : Tx))) (by walk_at "vc")) a_nil) (by walk_at "vc") (by walk_at "vc")) (g_name (α := Int) (i := 3)) (⟨⟨.inr rfl, .inr rfl, .inr rfl, .inl rfl, trivial⟩, .cons₂ _ (.slnil)⟩) (⟨by omega, by omega, by simp⟩) (fun n x s s' hx hI h => by have := irange_at hx; (split at h) <;> (simp only [Ctl.bind] at h; injection h with h; subst h; simp; omega)) (fun n4 x2 s5 hx3 hI6 => have hfx2 := irange_at hx3; have hInv := hI6; b_seq (CS := (fun (s8 : Int × List (Int × Int)) => ⟨[some (isa (row_ : Tx)), some (isr p_found1), some (isa (s8.1 : Int)), some (isa (x2 : Int))], [lstC p_found1 (s8.2 : List (Int × Int))]⟩)) (b_if (t_not (t_v (x_call (fs := (fs_stands_earlier K)) (r := (m_stands_earlier row_ s5.1 (x2 + (1 : Int)))) (row_, s5.1, (x2 + (1 : Int))) (show (row_).length ≤ 2000 ∧ (s5.1) ≤ 1000 ∧ -1000 ≤ (s5.1) from (by walk_at "vc")) (a_cons (x_var (R := isa (row_ : Tx))) (a_cons (x_var (R := isa (s5.1 : Int))) (a_cons (x_add (x_var (R := isa (x2 : Int))) (x_int)) (a_nil))))))) (fun h7 => b_app (α := (Int × Int)) (xs := s5.2) (p := p_found1) 0 (x_var (R := isr p_found1)) (x_tup2 (x := (s5.1 : Int)) (y := ((x2 + (1 : Int)) : Int)) (a_cons (x_var (R := isa (s5.1 : Int))) (a_cons (x_add (x_var (R := isa (x2 : Int))) (x_int)) (a_nil)))) (by walk_at "vc") (b_asg (i := 2) (x_add (x_var (R := isa (x2 : Int))) (x_int)) (b_nil (⟨⟨.inr rfl, .inr rfl, .inr rfl, .inr rfl, trivial⟩, .cons₂ _ (.slnil)⟩)))) (fun h7 => b_nil (⟨⟨.inr rfl, .inr rfl, .inr rfl, .inr rfl, trivial⟩, .cons₂ _ (.slnil)⟩))) (fun s8 hs8 => b_nil (⟨⟨.inr rfl, .inr rfl, .inr rfl, .inl rfl, trivial⟩, .cons₂ _ (.slnil)⟩))) (fun s5 hI6 => have hEnd := hI6; b_retS (r := s5.2) (x_frz (α := (Int × Int)) (xs := s5.2) (p := p_found1) 0))))
def fs_first_cutting (K : Fg) : Fs := Fs.mk (Tx) (List Int) Empty (fun (a : Tx) => (a).length ≤ 60) (fun (a : Tx) => [isa (a : Tx)]) (fun a => []) (fun a => pu (List Int)) (fun a => .rt (m_first_cutting a))
abbrev N_first_cutting : List Str := ["row", "begin", "behind"]
theorem sc_first_cutting : FnScope N_first_cutting ["row"] (defScope s_first_cutting) := ⟨rfl, rfl, rfl, by decide +kernel, rfl, by decide +kernel, by decide +kernel⟩
set_option maxHeartbeats 4000000 in
theorem ok_first_cutting (M : Md fa fn K mg base) : Cal P w K mg base CX0 3 "first_cutting" (fs_first_cutting K).sp := by
  obtain ⟨fd, F⟩ := M.says.def_ 9 (d := d_first_cutting) rfl
  have sc := sc_first_cutting
  refine cal_mk (P := P) (w := w) (fs_first_cutting K) (N := N_first_cutting) F sc (M.gl 17) (FunD.bindsN F fun _ _ _ _ _ _ us hl => match us, hl with | [_], _ => rfl) (fun _ => rfl) (fun a => m_first_cutting_c a) (fun _ e => e.elim) (fun _ e => e.elim) (fun cdv A outer s H E hr => ⟨_, pss_cons (ps_ret (pe_lc (own := [("begin", 1), ("behind", 2)]) (g := gTup K 2 (gCons (gName 1) (gCons (gName 2) gNil))) (tt := tYes) rfl sc.nd (k_ilist K rfl (pe_callC (ok_new_stretches M) hr (by decide) pass0 (pa_cons (pv 0) (pa_nil)))) (blkOk_by (own := [("begin", 1), ("behind", 2)]) (N := N_first_cutting) (sc := defScope s_first_cutting) (by decide +kernel)) (fun _ _ _ _ _ => k_gtup K rfl rfl (pgs_cons (pg_name (i := 1) sc.nd rfl (by first | exact Or.inl rfl | exact Or.inr rfl)) (pgs_cons (pg_name (i := 2) sc.nd rfl (by first | exact Or.inl rfl | exact Or.inr rfl)) pgs_nil))) (fun _ _ _ _ _ => pts_nil) (fun _ _ _ _ _ => pe_op op_sub (pv 2) (pe_int)))) pss_nil, ?_⟩) (fun a _ => out_eq _ _) (fun _ e => e.elim)
  intro (row_ : Tx) ha
  have hp1 : row_.length ≤ 60 := ha
  unfold m_first_cutting_c
  show XB _ ⟨[some (isa (row_ : Tx)), none, none], []⟩ _ _ ((fun (e : Empty) => e.elim))
  exact have hc1 := new_str_len row_; b_retS (r := (List.map (fun x2 => (x2.2 - (1 : Int))) (m_new_stretches row_))) (XN.frz (n_lcU (α := (Int × Int)) (β := Int) (is := [1, 2]) (up := _) (fun x2 => (x2.2 - (1 : Int))) (i_list (α := (Int × Int)) (x_call (fs := (fs_new_stretches K)) (r := (m_new_stretches row_)) row_ (show (row_).length ≤ 60 from (by walk_at "vc")) (a_cons (x_var (R := isa (row_ : Tx))) (a_nil)))) (g_tup2 (K := K) (α := Int) (β := Int) (i := 1) (j := 2)) (by decide) (fun n4 x2 hx3 => have hfx2 := mem_at hx3; x_sub (x_var (R := isa (x2.2 : Int))) (x_int)) (by walk_at "vc")))

def fp_first_cutting (K : Fg) : Fs := Fs.mk Tx (List Int) Empty (fun a => a.length ≤ 60) (fun a => [isa (a : Tx)]) (fun a => []) (fun a => pu (List Int)) (fun a => .rt (cuts a))
theorem op_first_cutting (M : Md fa fn K mg base) : Cal P w K mg base CX0 3 "first_cutting" (fp_first_cutting K).sp := (ok_first_cutting M).imp (fun vs H Q E => Fs.via (fP := fp_first_cutting K) (f2 := fs_first_cutting K) (fun a => a) (fun a => cuts a) (fun a => cuts a) (fun a ha => ⟨ha, congrArg Ctl.rt (first_k a), rfl⟩) (fun _ => rfl) (fun _ => rfl) (fun _ _ => rfl) (fun _ _ _ _ _ h => h) vs H Q E)

def fs_is_letter (K : Fg) : Fs := Fs.mk (Tx) Bool Empty (fun (a : Tx) => (a).length ≤ 1000) (fun (a : Tx) => [isa (a : Tx)]) (fun a => []) (fun a => pu Bool) (fun a => .rt (m_is_letter a))
abbrev N_is_letter : List Str := ["thing"]
theorem sc_is_letter : FnScope N_is_letter ["thing"] (defScope s_is_letter) := ⟨rfl, rfl, rfl, by decide +kernel, rfl, by decide +kernel, by decide +kernel⟩
set_option maxHeartbeats 4000000 in
theorem ok_is_letter (M : Md fa fn K mg base) : Cal P w K mg base CX0 1 "is_letter" (fs_is_letter K).sp := by
  obtain ⟨fd, F⟩ := M.says.def_ 10 (d := d_is_letter) rfl
  have sc := sc_is_letter
  refine cal_mk (P := P) (w := w) (fs_is_letter K) (N := N_is_letter) F sc (M.gl 19) (FunD.bindsN F fun _ _ _ _ _ _ us hl => match us, hl with | [_], _ => rfl) (fun _ => rfl) (fun a => m_is_letter_c a) (fun _ e => e.elim) (fun _ e => e.elim) (fun cdv A outer s H E hr => ⟨_, pss_cons (ps_ret (pe_and (k_cb (c_isi rfl) (M.fr 0) bt_isinstance (pa_cons (pv 0) (pa_cons (pe_bltn (v := .ty "str") (by rfl) (M.fr 18) bt_str rfl) pa_nil))) (pe_and (pe_cmpR (op_eqT hr) (k_cb c_lenZ (M.fr 4) bt_len (pa_cons (pv 0) pa_nil)) (pe_int) (nomark _)) (pe_one (pe_chain op_le_str op_le_str (pe_str) (pv 0) (pe_str)))))) pss_nil, ?_⟩) (fun a _ => out_eq _ _) (fun _ e => e.elim)
  intro (thing_ : Tx) ha
  have hp1 : thing_.length ≤ 1000 := ha
  unfold m_is_letter_c
  show XB _ ⟨[some (isa (thing_ : Tx))], []⟩ _ _ ((fun (e : Empty) => e.elim))
  exact b_retS (r := (true && ((decide (((List.length thing_ : Nat) : Int) = (1 : Int))) && (leT (tx "a") thing_ && leT thing_ (tx "z"))))) (x_and (x_isi (α := Tx) true (x_var (R := isa (thing_ : Tx))) (by decide +kernel)) (fun hb3 => x_and (x_eq (α := Int) (x_lenS (x_var (R := isa (thing_ : Tx))) (by walk_at "vc")) (x_int)) (fun hb2 => x_chainS (x_tx "a") (x_var (R := isa (thing_ : Tx))) (x_tx "z"))))
theorem init_fn (M : Md fa fn K mg base) : ∃ fd, FnOk P w K mg base CX0 1 (He.ma K (He.ga K "Keeper") "__init__") fd ["self"] (spI (He.ga K "Keeper")) ∧ Binds K fd ["self"] [] := by
  obtain ⟨fd, F⟩ := M.says.def_ 11 (d := d_Keeper___init__) rfl
  have sc : FnScope ["self"] ["self"] (defScope s_Keeper___init__) := ⟨rfl, rfl, rfl, by decide +kernel, rfl, by decide +kernel, by decide +kernel⟩
  exact ⟨fd, F.ok sc (fun vs H Q E ⟨x, dx, h, _⟩ => by rw [h]; rfl)
    (fun cdv A outer s H vs Q E hr h => ⟨tInit K, PSs.nox (pss_cons (ks_fld K rfl (pv 0) pe_str) (pss_cons (ks_fld K rfl (pv 0) (pe_lst pa_nil)) pss_nil)), init_ok (M.cls 21) (M.noat 23) (M.noat 24) vs H Q E h⟩), FunD.bindsN F fun _ _ _ _ _ _ us hl => match us, hl with | [_], _ => rfl⟩
theorem pe_keeper {X : Cx} {E : XK} {p pos : Pos} (hK : X.K = K) (hm : X.mg = mg) (hb : X.base = base) (M : Md fa fn K mg base) (hr : Room 2 X.A) (hg : Gl X "Keeper" := by rfl) :
    PE X (.Call (.Name "Keeper" p) [] [] pos) (tMake (He.ga K "Keeper") (spI (He.ga K "Keeper")) [] E tNil) := by
  subst hK hm hb
  obtain ⟨fd, F, b⟩ := init_fn (P := X.prog) (w := X.w) M
  exact pe_make0 (M.mkr 22) F hr hg (M.gl 20) b .nil pass0
def fs_Keeper_row (K : Fg) : Fs := Fs.mk (Kp × (Tx × List Int)) Tx Empty (fun (a : Kp × (Tx × List Int)) => True) (fun (a : Kp × (Tx × List Int)) => [isr a.1.p]) (fun a => [insC (He.ga K "Keeper") a.1.p a.1.dx (kfT a.1 (a.2).1), lstC a.1.q (a.2).2]) (fun a => ro Tx [insC (He.ga K "Keeper") a.1.p a.1.dx (kfT a.1 (a.2).1), lstC a.1.q (a.2).2]) (fun a => .rt (m_Keeper_row a.2))
abbrev N_Keeper_row : List Str := ["self"]
theorem sc_Keeper_row : FnScope N_Keeper_row ["self"] (defScope s_Keeper_row) := ⟨rfl, rfl, rfl, by decide +kernel, rfl, by decide +kernel, by decide +kernel⟩
set_option maxHeartbeats 4000000 in
theorem ok_Keeper_row (M : Md fa fn K mg base) : CalM P w K mg base CX0 1 (He.ga K "Keeper") "row" (fs_Keeper_row K).sp := by
  obtain ⟨fd, F⟩ := M.says.def_ 12 (d := d_Keeper_row) rfl
  have sc := sc_Keeper_row
  refine cam_mk (P := P) (w := w) (fs_Keeper_row K) (N := N_Keeper_row) F sc (M.meth 25) (FunD.bindsN F fun _ _ _ _ _ _ us hl => match us, hl with | [_], _ => rfl) (fun _ => rfl) (fun a => m_Keeper_row_c a.2) (fun _ e => e.elim) (fun _ e => e.elim) (fun cdv A outer s H E hr => ⟨_, pss_cons (ps_ret (ke_fld K rfl (pv 0))) pss_nil, ?_⟩) (fun a _ => out_eq _ _) (fun _ e => e.elim)
  intro a ha
  obtain ⟨k_self, self_⟩ := a
  skip
  unfold m_Keeper_row_c
  show XB _ ⟨[some (isr k_self.p)], [insC (He.ga K "Keeper") k_self.p k_self.dx (kfT k_self self_.1), lstC k_self.q (self_.2 : List Int)]⟩ _ _ ((fun (e : Empty) => e.elim))
  exact b_retS (r := self_.1) (x_kl (k := k_self) (t := self_.1) 0 (M.cls 21) (M.noat 23) (x_var (R := isr k_self.p))) (hO := .cons₂ _ (.cons₂ _ (.slnil)))

def fp_Keeper_row (K : Fg) : Fs := Fs.mk (Kp × Tx) Tx Empty (fun a => True) (fun a => [isr a.1.p]) (fun a => [kpC (He.ga K "Keeper") a.1 (kst a.2)]) (fun a => ro Tx [kpC (He.ga K "Keeper") a.1 (kst a.2)]) (fun a => .rt (a.2))
theorem op_Keeper_row (M : Md fa fn K mg base) : CalM P w K mg base CX0 1 (He.ga K "Keeper") "row" (fp_Keeper_row K).sp := (ok_Keeper_row M).imp (fun vs H Q E => Fs.pub (He.ga K "Keeper") (fP := fp_Keeper_row K) (f2 := fs_Keeper_row K) (fun a => (a.1, kst a.2)) (·.1) (fun a => kst a.2) (fun a => kst a.2) (fun a => a.2) (fun a => a.2) (fun a ha => ⟨trivial, rfl, rfl⟩) (fun _ => rfl) (fun _ => rfl) (fun _ => rfl) (fun _ => rfl) (fun _ => rfl) (fun _ _ _ _ h => h) vs H Q E)

def fs_Keeper_marks (K : Fg) : Fs := Fs.mk (Kp × (Tx × List Int)) (List Int) Empty (fun (a : Kp × (Tx × List Int)) => True) (fun (a : Kp × (Tx × List Int)) => [isr a.1.p]) (fun a => [insC (He.ga K "Keeper") a.1.p a.1.dx (kfT a.1 (a.2).1), lstC a.1.q (a.2).2]) (fun a => nuro Int [insC (He.ga K "Keeper") a.1.p a.1.dx (kfT a.1 (a.2).1), lstC a.1.q (a.2).2]) (fun a => .rt (m_Keeper_marks a.2))
abbrev N_Keeper_marks : List Str := ["self"]
theorem sc_Keeper_marks : FnScope N_Keeper_marks ["self"] (defScope s_Keeper_marks) := ⟨rfl, rfl, rfl, by decide +kernel, rfl, by decide +kernel, by decide +kernel⟩
set_option maxHeartbeats 4000000 in
theorem ok_Keeper_marks (M : Md fa fn K mg base) : CalM P w K mg base CX0 1 (He.ga K "Keeper") "marks" (fs_Keeper_marks K).sp := by
  obtain ⟨fd, F⟩ := M.says.def_ 13 (d := d_Keeper_marks) rfl
  have sc := sc_Keeper_marks
  refine cam_mk (P := P) (w := w) (fs_Keeper_marks K) (N := N_Keeper_marks) F sc (M.meth 27) (FunD.bindsN F fun _ _ _ _ _ _ us hl => match us, hl with | [_], _ => rfl) (fun _ => rfl) (fun a => m_Keeper_marks_c a.2) (fun _ e => e.elim) (fun _ e => e.elim) (fun cdv A outer s H E hr => ⟨_, pss_cons (ps_ret (k_ct (c_list K rfl) (M.fr 26) bt_list (pa_cons (ke_fld K rfl (pv 0)) pa_nil))) pss_nil, ?_⟩) (fun a _ => out_eq _ _) (fun _ e => e.elim)
  intro a ha
  obtain ⟨k_self, self_⟩ := a
  skip
  unfold m_Keeper_marks_c
  show XB _ ⟨[some (isr k_self.p)], [insC (He.ga K "Keeper") k_self.p k_self.dx (kfT k_self self_.1), lstC k_self.q (self_.2 : List Int)]⟩ _ _ ((fun (e : Empty) => e.elim))
  exact b_retN (α := Int) (xs := self_.2) (r := self_.2) (n_listO (α := Int) (xs := self_.2) 1 (x_kh (k := k_self) (t := self_.1) 0 (M.cls 21) (M.noat 24) (x_var (R := isr k_self.p)))) (hO := .cons₂ _ (.cons₂ _ (.slnil)))

def fp_Keeper_marks (K : Fg) : Fs := Fs.mk (Kp × Tx) (List Int) Empty (fun a => True) (fun a => [isr a.1.p]) (fun a => [kpC (He.ga K "Keeper") a.1 (kst a.2)]) (fun a => nuro Int [kpC (He.ga K "Keeper") a.1 (kst a.2)]) (fun a => .rt (cuts a.2))
theorem op_Keeper_marks (M : Md fa fn K mg base) : CalM P w K mg base CX0 1 (He.ga K "Keeper") "marks" (fp_Keeper_marks K).sp := (ok_Keeper_marks M).imp (fun vs H Q E => Fs.pub (He.ga K "Keeper") (fP := fp_Keeper_marks K) (f2 := fs_Keeper_marks K) (fun a => (a.1, kst a.2)) (·.1) (fun a => kst a.2) (fun a => kst a.2) (fun a => cuts a.2) (fun a => cuts a.2) (fun a ha => ⟨trivial, rfl, rfl⟩) (fun _ => rfl) (fun _ => rfl) (fun _ => rfl) (fun _ => rfl) (fun _ => rfl) (fun _ _ _ _ h => h) vs H Q E)

def fs_Keeper_begin (K : Fg) : Fs := Fs.mk (Kp × (Tx × List Int)) Int Empty (fun (a : Kp × (Tx × List Int)) => True) (fun (a : Kp × (Tx × List Int)) => [isr a.1.p]) (fun a => [insC (He.ga K "Keeper") a.1.p a.1.dx (kfT a.1 (a.2).1), lstC a.1.q (a.2).2]) (fun a => ro Int [insC (He.ga K "Keeper") a.1.p a.1.dx (kfT a.1 (a.2).1), lstC a.1.q (a.2).2]) (fun a => .rt (m_Keeper_begin a.2))
abbrev N_Keeper_begin : List Str := ["self"]
theorem sc_Keeper_begin : FnScope N_Keeper_begin ["self"] (defScope s_Keeper_begin) := ⟨rfl, rfl, rfl, by decide +kernel, rfl, by decide +kernel, by decide +kernel⟩
set_option maxHeartbeats 4000000 in
theorem ok_Keeper_begin (M : Md fa fn K mg base) : CalM P w K mg base CX0 1 (He.ga K "Keeper") "begin" (fs_Keeper_begin K).sp := by
  obtain ⟨fd, F⟩ := M.says.def_ 14 (d := d_Keeper_begin) rfl
  have sc := sc_Keeper_begin
  refine cam_mk (P := P) (w := w) (fs_Keeper_begin K) (N := N_Keeper_begin) F sc (M.meth 28) (FunD.bindsN F fun _ _ _ _ _ _ us hl => match us, hl with | [_], _ => rfl) (fun _ => rfl) (fun a => m_Keeper_begin_c a.2) (fun _ e => e.elim) (fun _ e => e.elim) (fun cdv A outer s H E hr => ⟨_, pss_cons (ps_if (pt_cmpR (op_eqT hr) (ke_fld K rfl (pv 0)) (pe_lst pa_nil) (nomark _)) (pss_cons (ps_ret (pe_int)) pss_nil) pss_nil) (pss_cons (ps_ret (pe_op op_add (k_ixL K rfl (ke_fld K rfl (pv 0)) (pe_un un_neg (pe_int))) (pe_int))) pss_nil), ?_⟩) (fun a _ => out_eq _ _) (fun _ e => e.elim)
  intro a ha
  obtain ⟨k_self, self_⟩ := a
  skip
  unfold m_Keeper_begin_c
  show XB _ ⟨[some (isr k_self.p)], [insC (He.ga K "Keeper") k_self.p k_self.dx (kfT k_self self_.1), lstC k_self.q (self_.2 : List Int)]⟩ _ _ ((fun (e : Empty) => e.elim))
  exact b_guard (CE := fun (e : Empty) => e.elim) (t_t (x_eqO (α := Int) (xs := self_.2) 1 (x_kh (k := k_self) (t := self_.1) 0 (M.cls 21) (M.noat 24) (x_var (R := isr k_self.p))) (XN.frz (n_nil (α := Int))))) (fun h1 => b_retS (r := (0 : Int)) (x_int) (hO := .cons₂ _ (.cons₂ _ (.slnil)))) (fun h1 => b_retS (r := ((ixI self_.2 (-(1 : Int))) + (1 : Int))) (x_add (x_ixO (α := Int) (xs := self_.2) (p := k_self.q) 1 (x_kh (k := k_self) (t := self_.1) 0 (M.cls 21) (M.noat 24) (x_var (R := isr k_self.p))) (x_neg (x_int)) (by walk_at "vc")) (x_int)) (hO := .cons₂ _ (.cons₂ _ (.slnil))))

def fp_Keeper_begin (K : Fg) : Fs := Fs.mk (Kp × Tx) Int Empty (fun a => True) (fun a => [isr a.1.p]) (fun a => [kpC (He.ga K "Keeper") a.1 (kst a.2)]) (fun a => ro Int [kpC (He.ga K "Keeper") a.1 (kst a.2)]) (fun a => .rt (k_beg a.2))
theorem op_Keeper_begin (M : Md fa fn K mg base) : CalM P w K mg base CX0 1 (He.ga K "Keeper") "begin" (fp_Keeper_begin K).sp := (ok_Keeper_begin M).imp (fun vs H Q E => Fs.pub (He.ga K "Keeper") (fP := fp_Keeper_begin K) (f2 := fs_Keeper_begin K) (fun a => (a.1, kst a.2)) (·.1) (fun a => kst a.2) (fun a => kst a.2) (fun a => k_beg a.2) (fun a => k_beg a.2) (fun a ha => ⟨trivial, congrArg Ctl.rt (begin_k a.2 a.2), rfl⟩) (fun _ => rfl) (fun _ => rfl) (fun _ => rfl) (fun _ => rfl) (fun _ => rfl) (fun _ _ _ _ h => h) vs H Q E)

def fs_Keeper_over (K : Fg) : Fs := Fs.mk (Kp × (Tx × List Int) × Tx) (Option Int) Empty (fun (a : Kp × (Tx × List Int) × Tx) => (a.2.1).1.length ≤ 60 ∧ (a.2.1).2.length ≤ 60 ∧ (a.2.2).length ≤ 1000) (fun (a : Kp × (Tx × List Int) × Tx) => [isr a.1.p, isa (a.2.2 : Tx)]) (fun a => [insC (He.ga K "Keeper") a.1.p a.1.dx (kfT a.1 (a.2.1).1), lstC a.1.q (a.2.1).2]) (fun a => ro (Option Int) [insC (He.ga K "Keeper") a.1.p a.1.dx (kfT a.1 (a.2.1).1), lstC a.1.q (a.2.1).2]) (fun a => .rt (m_Keeper_over a.2.1 a.2.2))
abbrev N_Keeper_over : List Str := ["self", "word"]
theorem sc_Keeper_over : FnScope N_Keeper_over ["self", "word"] (defScope s_Keeper_over) := ⟨rfl, rfl, rfl, by decide +kernel, rfl, by decide +kernel, by decide +kernel⟩
set_option maxHeartbeats 4000000 in
theorem ok_Keeper_over (M : Md fa fn K mg base) : CalM P w K mg base CX0 3 (He.ga K "Keeper") "over" (fs_Keeper_over K).sp := by
  obtain ⟨fd, F⟩ := M.says.def_ 15 (d := d_Keeper_over) rfl
  have sc := sc_Keeper_over
  refine cam_mk (P := P) (w := w) (fs_Keeper_over K) (N := N_Keeper_over) F sc (M.meth 29) (FunD.bindsN F fun _ _ _ _ _ _ us hl => match us, hl with | [_, _], _ => rfl) (fun _ => rfl) (fun a => m_Keeper_over_c a.2.1 a.2.2) (fun _ e => e.elim) (fun _ e => e.elim) (fun cdv A outer s H E hr => ⟨_, pss_cons (ps_ret (pe_callC (ok_over M) hr (by decide) pass0 (pa_cons (ke_fld K rfl (pv 0)) (pa_cons (ke_fld K rfl (pv 0)) (pa_cons (pv 1) (pa_nil)))))) pss_nil, ?_⟩) (fun a _ => out_eq _ _) (fun _ e => e.elim)
  intro a ha
  obtain ⟨k_self, self_, word_⟩ := a
  obtain ⟨hp1, hp2, hp3⟩ : self_.1.length ≤ 60 ∧ self_.2.length ≤ 60 ∧ word_.length ≤ 1000 := ha
  unfold m_Keeper_over_c
  show XB _ ⟨[some (isr k_self.p), some (isa (word_ : Tx))], [insC (He.ga K "Keeper") k_self.p k_self.dx (kfT k_self self_.1), lstC k_self.q (self_.2 : List Int)]⟩ _ _ ((fun (e : Empty) => e.elim))
  exact b_retS (r := (m_over self_.1 self_.2 word_)) (x_callL (α := Int) (xs := self_.2) (p := k_self.q) (fs := (fs_over K)) (r := (m_over self_.1 self_.2 word_)) 1 (self_.1, self_.2, word_) (show (self_.1).length ≤ 60 ∧ (self_.2).length ≤ 100 ∧ (word_).length ≤ 1000 from (by walk_at "vc")) (a_cons (x_kl (k := k_self) (t := self_.1) 0 (M.cls 21) (M.noat 23) (x_var (R := isr k_self.p))) (a_cons (x_kh (k := k_self) (t := self_.1) 0 (M.cls 21) (M.noat 24) (x_var (R := isr k_self.p))) (a_cons (x_var (R := isa (word_ : Tx))) (a_nil)))) (Lend.same (Lend.lend (Lend.same (Lend.nil))))) (hO := .cons₂ _ (.cons₂ _ (.slnil)))

def fp_Keeper_over (K : Fg) : Fs := Fs.mk (Kp × Tx × Tx) (Option Int) Empty (fun a => a.2.1.length ≤ 60 ∧ a.2.2.length ≤ 1000) (fun a => [isr a.1.p, isa (a.2.2 : Tx)]) (fun a => [kpC (He.ga K "Keeper") a.1 (kst a.2.1)]) (fun a => ro (Option Int) [kpC (He.ga K "Keeper") a.1 (kst a.2.1)]) (fun a => .rt (k_over a.2.1 a.2.2))
theorem op_Keeper_over (M : Md fa fn K mg base) : CalM P w K mg base CX0 3 (He.ga K "Keeper") "over" (fp_Keeper_over K).sp := (ok_Keeper_over M).imp (fun vs H Q E => Fs.pub (He.ga K "Keeper") (fP := fp_Keeper_over K) (f2 := fs_Keeper_over K) (fun a => (a.1, kst a.2.1, a.2.2)) (·.1) (fun a => kst a.2.1) (fun a => kst a.2.1) (fun a => k_over a.2.1 a.2.2) (fun a => k_over a.2.1 a.2.2) (fun a ha => ⟨⟨ha.1, Nat.le_trans (cuts_len _) ha.1, ha.2⟩, rfl, rfl⟩) (fun _ => rfl) (fun _ => rfl) (fun _ => rfl) (fun _ => rfl) (fun _ => rfl) (fun _ _ _ _ h => h) vs H Q E)

def fs_Keeper_put (K : Fg) : Fs := Fs.mk (Kp × (Tx × List Int) × Tx) (Unit × (Tx × List Int)) (Str × (Tx × List Int)) (fun (a : Kp × (Tx × List Int) × Tx) => (a.2.1).1.length ≤ 60 ∧ (a.2.1).2.length ≤ 60 ∧ (a.2.2).length ≤ 1000 ∧ InR (a.2.1).2) (fun (a : Kp × (Tx × List Int) × Tx) => [isr a.1.p, isa (a.2.2 : Tx)]) (fun a => [insC (He.ga K "Keeper") a.1.p a.1.dx (kfT a.1 (a.2.1).1), lstC a.1.q (a.2.1).2]) (fun a => exio K Unit ((Tx × List Int)) (fun z => [insC (He.ga K "Keeper") a.1.p a.1.dx (kfT a.1 (z).1), lstC a.1.q (z).2])) (fun a => m_Keeper_put a.2.1 a.2.2)
abbrev N_Keeper_put : List Str := ["self", "letter"]
theorem sc_Keeper_put : FnScope N_Keeper_put ["self", "letter"] (defScope s_Keeper_put) := ⟨rfl, rfl, rfl, by decide +kernel, rfl, by decide +kernel, by decide +kernel⟩
set_option maxHeartbeats 4000000 in
theorem ok_Keeper_put (M : Md fa fn K mg base) : CalM P w K mg base (L2.CX P w) 2 (He.ga K "Keeper") "put" (fs_Keeper_put K).sp := by
  obtain ⟨fd, F⟩ := M.says.def_ 16 (d := d_Keeper_put) rfl
  have sc := sc_Keeper_put
  refine cam_mkX (P := P) (w := w) (fs_Keeper_put K) (N := N_Keeper_put) F sc (M.meth 37) (FunD.bindsN F fun _ _ _ _ _ _ us hl => match us, hl with | [_, _], _ => rfl) (fun _ => rfl) (fun a => m_Keeper_put_c a.2.1 a.2.2) (fun a (s : (Tx × List Int)) => ⟨[none, none], [insC (He.ga K "Keeper") a.1.p a.1.dx (kfT a.1 (s).1), lstC a.1.q (s).2]⟩) (fun a s => ((), s)) (fun cdv A outer s H E hr => ⟨_, pss_cons (ps_if (pt_not (pt_val (pe_callC (ok_is_letter M) hr (by decide) pass0 (pa_cons (pv 1) (pa_nil))))) (pss_cons (ps_raiseT K rfl rfl (takes_of rfl rfl rfl rfl) (M.gl 30) (M.exc 31)) pss_nil) pss_nil) (pss_cons (ps_if (pt_cmpR (op_eqT hr) (k_cb c_lenZ (M.fr 4) bt_len (pa_cons (ke_fld K rfl (pv 0)) pa_nil)) (k_int (M.gi 33)) (nomark _)) (pss_cons (ps_raiseT K rfl rfl (takes_of rfl rfl rfl rfl) (M.gl 34) (M.exc 35)) pss_nil) pss_nil) (pss_cons (ks_fld K rfl (pv 0) (pe_op op_add_str (ke_fld K rfl (pv 0)) (pv 1))) (pss_cons (ps_if (pt_not (pt_val (pe_callC (ok_stands_earlier M) hr (by decide) pass0 (pa_cons (ke_fld K rfl (pv 0)) (pa_cons (pe_methC0 (ok_Keeper_begin M) (M.cls 21) hr (by decide) pass0 (pv 0)) (pa_cons (k_cb c_lenZ (M.fr 4) bt_len (pa_cons (ke_fld K rfl (pv 0)) pa_nil)) (pa_nil))))))) (pss_cons (ps_expr (k_bm K rfl PySem.F.plainAttrs_list PySem.F.slot_list_append PySem.F.type_list_append mt_append (ke_fld K rfl (pv 0)) (pa_cons (pe_op op_sub (k_cb c_lenZ (M.fr 4) bt_len (pa_cons (ke_fld K rfl (pv 0)) pa_nil)) (pe_int)) pa_nil))) (pss_nil)) (pss_nil)) (pss_nil)))), ?_⟩) (fun a _ => rfl) (fun _ _ _ => ⟨fun _ _ => rfl, List.Sublist.refl _⟩)
  intro a ha
  obtain ⟨k_self, self_, letter_⟩ := a
  obtain ⟨hp1, hp2, hp3, hp4⟩ : self_.1.length ≤ 60 ∧ self_.2.length ≤ 60 ∧ letter_.length ≤ 1000 ∧ InR self_.2 := ha
  unfold m_Keeper_put_c
  show XB _ ⟨[some (isr k_self.p), some (isa (letter_ : Tx))], [insC (He.ga K "Keeper") k_self.p k_self.dx (kfT k_self self_.1), lstC k_self.q (self_.2 : List Int)]⟩ _ _ ((fun (s : (Tx × List Int)) => ⟨[none, none], [insC (He.ga K "Keeper") k_self.p k_self.dx (kfT k_self (s).1), lstC k_self.q (s).2]⟩))
  exact b_guard (CE := fun (e : Empty) => e.elim) (t_not (t_v (x_call (fs := (fs_is_letter K)) (r := (m_is_letter letter_)) letter_ (show (letter_).length ≤ 1000 from (by walk_at "vc")) (a_cons (x_var (R := isa (letter_ : Tx))) (a_nil))))) (fun h1 => b_raiseG (x := (("NoLetter" : Str), (self_.1, self_.2))) (fun _ _ h => h) (.cons₂ _ (.cons₂ _ (.slnil)))) (fun h1 => b_guard (CE := fun (e : Empty) => e.elim) (t_t (x_eq (α := Int) (x_lenS (x_kl (k := k_self) (t := self_.1) 0 (M.cls 21) (M.noat 23) (x_var (R := isr k_self.p))) (by walk_at "vc")) (x_int))) (fun h2 => b_raiseG (x := (("TooMany" : Str), (self_.1, self_.2))) (fun _ _ h => h) (.cons₂ _ (.cons₂ _ (.slnil)))) (fun h2 => b_kl (k := k_self) (t := self_.1) 0 (M.cls 21) (M.noat 23) (x_addS (x_kl (k := k_self) (t := self_.1) 0 (M.cls 21) (M.noat 23) (x_var (R := isr k_self.p))) (x_var (R := isa (letter_ : Tx))) (by walk_at "vc")) (x_var (R := isr k_self.p)) (have hc3 := begin_rng ((self_.1 ++ letter_), self_.2) (by walk_at "vc"); b_seq (CS := (fun (s5 : List Int) => ⟨[some (isr k_self.p), some (isa (letter_ : Tx))], [insC (He.ga K "Keeper") k_self.p k_self.dx (kfT k_self (self_.1 ++ letter_)), lstC k_self.q (s5 : List Int)]⟩)) (b_if (t_not (t_v (x_call (fs := (fs_stands_earlier K)) (r := (m_stands_earlier (self_.1 ++ letter_) (m_Keeper_begin ((self_.1 ++ letter_), self_.2)) ((List.length (self_.1 ++ letter_) : Nat) : Int))) ((self_.1 ++ letter_), (m_Keeper_begin ((self_.1 ++ letter_), self_.2)), ((List.length (self_.1 ++ letter_) : Nat) : Int)) (show ((self_.1 ++ letter_)).length ≤ 2000 ∧ ((m_Keeper_begin ((self_.1 ++ letter_), self_.2))) ≤ 1000 ∧ -1000 ≤ ((m_Keeper_begin ((self_.1 ++ letter_), self_.2))) from (by walk_at "vc")) (a_cons (x_kl (k := k_self) (t := (self_.1 ++ letter_)) 0 (M.cls 21) (M.noat 23) (x_var (R := isr k_self.p))) (a_cons (x_methN (fs := fs_Keeper_begin K) (r := (m_Keeper_begin ((self_.1 ++ letter_), self_.2))) (D := (He.ga K "Keeper")) (pp := k_self.p) (dx := k_self.dx) (fl := kfT k_self (self_.1 ++ letter_)) 0 2 0 (k_self, ((self_.1 ++ letter_), self_.2)) trivial (x_var (R := isr k_self.p)) (a_nil) (hl := by rfl)) (a_cons (x_lenS (x_kl (k := k_self) (t := (self_.1 ++ letter_)) 0 (M.cls 21) (M.noat 23) (x_var (R := isr k_self.p))) (by walk_at "vc")) (a_nil))))))) (fun h4 => b_app (α := Int) (xs := self_.2) (p := k_self.q) 1 (x_kh (k := k_self) (t := (self_.1 ++ letter_)) 0 (M.cls 21) (M.noat 24) (x_var (R := isr k_self.p))) (x_sub (x_lenS (x_kl (k := k_self) (t := (self_.1 ++ letter_)) 0 (M.cls 21) (M.noat 23) (x_var (R := isr k_self.p))) (by walk_at "vc")) (x_int)) (by walk_at "vc") (b_nil (⟨⟨.inr rfl, .inr rfl, trivial⟩, .cons₂ _ (.cons₂ _ (.slnil))⟩))) (fun h4 => b_nil (⟨⟨.inr rfl, .inr rfl, trivial⟩, .cons₂ _ (.cons₂ _ (.slnil))⟩))) (fun s5 hs5 => b_nil (⟨⟨.inl rfl, .inl rfl, trivial⟩, .cons₂ _ (.cons₂ _ (.slnil))⟩)))))

def fp_Keeper_put (K : Fg) : Fs := Fs.mk (Kp × Tx × Tx) (Unit × Tx) Empty (fun a => a.2.1.length < 60 ∧ isL a.2.2) (fun a => [isr a.1.p, isa (a.2.2 : Tx)]) (fun a => [kpC (He.ga K "Keeper") a.1 (kst a.2.1)]) (fun a => io Unit Tx (fun z => [kpC (He.ga K "Keeper") a.1 (kst z)])) (fun a => .rt (k_put a.2.1 a.2.2))
theorem op_Keeper_put (M : Md fa fn K mg base) : CalM P w K mg base CX0 2 (He.ga K "Keeper") "put" (fp_Keeper_put K).sp := (ok_Keeper_put M).calm (fun vs H Q E => Fs.pub (He.ga K "Keeper") (fP := fp_Keeper_put K) (f2 := fs_Keeper_put K) (fun a => (a.1, kst a.2.1, a.2.2)) (·.1) (fun a => kst a.2.1) (fun a => kst (a.2.1 ++ a.2.2)) (fun a => ((), kst (a.2.1 ++ a.2.2))) (fun a => k_put a.2.1 a.2.2) (fun a ha => ⟨⟨Nat.le_of_lt ha.1, Nat.le_trans (cuts_len _) (Nat.le_of_lt ha.1), by obtain ⟨c, h, _⟩ := ha.2; rw [h]; simp, inR_cuts (Nat.le_of_lt ha.1)⟩, put_k ha.1 ha.2, rfl⟩) (fun _ => rfl) (fun _ => rfl) (fun _ => rfl) (fun _ => rfl) (fun _ => rfl) (fun _ _ _ _ h => h) vs H Q E)

def fs_Keeper_take (K : Fg) : Fs := Fs.mk (Kp × (Tx × List Int)) (Tx × (Tx × List Int)) (Str × (Tx × List Int)) (fun (a : Kp × (Tx × List Int)) => (a.2).1.length ≤ 60 ∧ ((a.2).1 ≠ [] → (a.2).2 ≠ [])) (fun (a : Kp × (Tx × List Int)) => [isr a.1.p]) (fun a => [insC (He.ga K "Keeper") a.1.p a.1.dx (kfT a.1 (a.2).1), lstC a.1.q (a.2).2]) (fun a => exio K Tx ((Tx × List Int)) (fun z => [insC (He.ga K "Keeper") a.1.p a.1.dx (kfT a.1 (z).1), lstC a.1.q (z).2])) (fun a => m_Keeper_take a.2)
abbrev N_Keeper_take : List Str := ["self", "letter"]
theorem sc_Keeper_take : FnScope N_Keeper_take ["self"] (defScope s_Keeper_take) := ⟨rfl, rfl, rfl, by decide +kernel, rfl, by decide +kernel, by decide +kernel⟩
set_option maxHeartbeats 4000000 in
theorem ok_Keeper_take (M : Md fa fn K mg base) : CalM P w K mg base (L2.CX P w) 1 (He.ga K "Keeper") "take" (fs_Keeper_take K).sp := by
  obtain ⟨fd, F⟩ := M.says.def_ 17 (d := d_Keeper_take) rfl
  have sc := sc_Keeper_take
  refine cam_mkX (P := P) (w := w) (fs_Keeper_take K) (N := N_Keeper_take) F sc (M.meth 38) (FunD.bindsN F fun _ _ _ _ _ _ us hl => match us, hl with | [_], _ => rfl) (fun _ => rfl) (fun a => m_Keeper_take_c a.2) (fun _ e => e.elim) (fun _ e => e.elim) (fun cdv A outer s H E hr => ⟨_, pss_cons (ps_if (pt_cmpR (op_eqT hr) (ke_fld K rfl (pv 0)) (pe_str) (nomark _)) (pss_cons (ps_raiseT K rfl rfl (takes_of rfl rfl rfl rfl) (M.gl 30) (M.exc 31)) pss_nil) pss_nil) (pss_cons (ps_set (i := 1) sc.nd rfl (by first | exact Or.inl rfl | exact Or.inr rfl) (k_ixS (ke_fld K rfl (pv 0)) (pe_un un_neg (pe_int)))) (pss_cons (ks_fld K rfl (pv 0) (k_slS (ke_fld K rfl (pv 0)) (po_none) (po_some (pe_un un_neg (pe_int))))) (pss_cons (ps_if (pt_cmpR (op_eqT hr) (k_ixL K rfl (ke_fld K rfl (pv 0)) (pe_un un_neg (pe_int))) (k_cb c_lenZ (M.fr 4) bt_len (pa_cons (ke_fld K rfl (pv 0)) pa_nil)) (nomark _)) (pss_cons (ps_expr (pe_bm0 PySem.F.plainAttrs_list PySem.F.slot_list_pop PySem.F.type_list_pop mt_pop (ke_fld K rfl (pv 0)))) (pss_nil)) (pss_nil)) (pss_cons (ps_ret (pv 1)) pss_nil)))), ?_⟩) (fun a _ => rfl) (fun _ e => e.elim)
  intro a ha
  obtain ⟨k_self, self_⟩ := a
  obtain ⟨hp1, hp2⟩ : self_.1.length ≤ 60 ∧ (self_.1 ≠ [] → self_.2 ≠ []) := ha
  unfold m_Keeper_take_c
  show XB _ ⟨[some (isr k_self.p), none], [insC (He.ga K "Keeper") k_self.p k_self.dx (kfT k_self self_.1), lstC k_self.q (self_.2 : List Int)]⟩ _ _ ((fun (e : Empty) => e.elim))
  exact b_guard (CE := fun (e : Empty) => e.elim) (t_t (x_eq (α := Tx) (x_kl (k := k_self) (t := self_.1) 0 (M.cls 21) (M.noat 23) (x_var (R := isr k_self.p))) (x_tx ""))) (fun h1 => b_raiseG (x := (("NoLetter" : Str), (self_.1, self_.2))) (fun _ _ h => h) (.cons₂ _ (.cons₂ _ (.slnil)))) (fun h1 => b_asgV (i := 1) (x_ixS (x_kl (k := k_self) (t := self_.1) 0 (M.cls 21) (M.noat 23) (x_var (R := isr k_self.p))) (x_neg (x_int)) (by walk_at "vc") (by walk_at "vc")) (fun letter_2 hletter_2 => have hlletter_2 := congrArg List.length hletter_2; have hc3 := cut_len self_.1 none (some (-(1 : Int))); b_klV (k := k_self) (t := self_.1) 0 (M.cls 21) (M.noat 23) (x_slS (x_kl (k := k_self) (t := self_.1) 0 (M.cls 21) (M.noat 23) (x_var (R := isr k_self.p))) (o_none) (o_some (x_neg (x_int))) (by walk_at "vc")) (x_var (R := isr k_self.p)) (fun l_4 hl_4 => have hfl_4 := hlen_cut hl_4; have hll_4 := congrArg List.length hl_4; b_seq (CS := (fun (s6 : List Int) => ⟨[some (isr k_self.p), some (isa (letter_2 : Tx))], [insC (He.ga K "Keeper") k_self.p k_self.dx (kfT k_self l_4), lstC k_self.q (s6 : List Int)]⟩)) (b_if (t_t (x_eq (α := Int) (x_ixO (α := Int) (xs := self_.2) (p := k_self.q) 1 (x_kh (k := k_self) (t := l_4) 0 (M.cls 21) (M.noat 24) (x_var (R := isr k_self.p))) (x_neg (x_int)) (by exact ib_last (hp2 (fun e => of_decide_eq_false h1 e)))) (x_lenS (x_kl (k := k_self) (t := l_4) 0 (M.cls 21) (M.noat 23) (x_var (R := isr k_self.p))) (by walk_at "vc")))) (fun h5 => b_popD (α := Int) (xs := self_.2) (p := k_self.q) 1 (x_kh (k := k_self) (t := l_4) 0 (M.cls 21) (M.noat 24) (x_var (R := isr k_self.p))) (by exact hp2 (fun e => of_decide_eq_false h1 e)) (b_nil (⟨⟨.inr rfl, .inr rfl, trivial⟩, .cons₂ _ (.cons₂ _ (.slnil))⟩))) (fun h5 => b_nil (⟨⟨.inr rfl, .inr rfl, trivial⟩, .cons₂ _ (.cons₂ _ (.slnil))⟩))) (fun s6 hs6 => b_retS (r := (letter_2, (l_4, s6))) (x_var (R := isa (letter_2 : Tx))) (hO := .cons₂ _ (.cons₂ _ (.slnil)))))))

def fp_Keeper_take (K : Fg) : Fs := Fs.mk (Kp × Tx) (Tx × Tx) Empty (fun a => a.2.length ≤ 60 ∧ 0 < a.2.length) (fun a => [isr a.1.p]) (fun a => [kpC (He.ga K "Keeper") a.1 (kst a.2)]) (fun a => io Tx Tx (fun z => [kpC (He.ga K "Keeper") a.1 (kst z)])) (fun a => .rt (k_take a.2))
theorem op_Keeper_take (M : Md fa fn K mg base) : CalM P w K mg base CX0 1 (He.ga K "Keeper") "take" (fp_Keeper_take K).sp := (ok_Keeper_take M).calm (fun vs H Q E => Fs.pub (He.ga K "Keeper") (fP := fp_Keeper_take K) (f2 := fs_Keeper_take K) (fun a => (a.1, kst a.2)) (·.1) (fun a => kst a.2) (fun a => kst (k_take a.2).2) (fun a => ((k_take a.2).1, kst (k_take a.2).2)) (fun a => k_take a.2) (fun a ha => ⟨⟨ha.1, fun h => cuts_ne h⟩, take_k ha.2, rfl⟩) (fun _ => rfl) (fun _ => rfl) (fun _ => rfl) (fun _ => rfl) (fun _ => rfl) (fun _ _ _ _ h => h) vs H Q E)

def fs__law_take (K : Fg) : Fs := Fs.mk (Addr × (List Int) × Int) (Int × (List Int)) Empty (fun (a : Addr × (List Int) × Int) => (a.2.1).length = 2 ∧ 0 ≤ ixI (a.2.1) 1 ∧ ixI (a.2.1) 1 < 2147483647 ∧ 0 < (a.2.2) ∧ (a.2.2) ≤ 1000) (fun (a : Addr × (List Int) × Int) => [isr a.1, isa (a.2.2 : Int)]) (fun a => [lstC a.1 a.2.1]) (fun a => io Int ((List Int)) (fun z => [lstC a.1 z])) (fun a => .rt (m_law_take a.2.1 a.2.2))
abbrev N__law_take : List Str := ["state", "many", "digit"]
theorem sc__law_take : FnScope N__law_take ["state", "many"] (defScope s__law_take) := ⟨rfl, rfl, rfl, by decide +kernel, rfl, by decide +kernel, by decide +kernel⟩
set_option maxHeartbeats 4000000 in
theorem ok__law_take (M : Md fa fn K mg base) : Cal P w K mg base CX0 1 "_law_take" (fs__law_take K).sp := by
  obtain ⟨fd, F⟩ := M.says.def_ 18 (d := d__law_take) rfl
  have sc := sc__law_take
  refine cal_mk (P := P) (w := w) (fs__law_take K) (N := N__law_take) F sc (M.gl 39) (FunD.bindsN F fun _ _ _ _ _ _ us hl => match us, hl with | [_, _], _ => rfl) (fun _ => rfl) (fun a => m_law_take_c a.2.1 a.2.2) (fun _ e => e.elim) (fun _ e => e.elim) (fun cdv A outer s H E hr => ⟨_, pss_cons (ps_if (pt_cmpR op_gt (k_ixL K rfl (pv 0) (pe_int)) (pe_int) (nomark _)) (pss_cons (ps_set (i := 2) sc.nd rfl (by first | exact Or.inl rfl | exact Or.inr rfl) (pe_op op_mod (k_ixL K rfl (pv 0) (pe_int)) (pv 1))) (pss_cons (ps_asg (pe_op op_fdiv (k_ixL K rfl (pv 0) (pe_int)) (pv 1)) (pg_sub (pv 0) (pe_int) set_list)) (pss_cons (ps_ret (pv 2)) pss_nil))) pss_nil) (pss_cons (ps_asg (pe_op op_mod (pe_op op_add (pe_op op_mul (k_ixL K rfl (pv 0) (pe_int)) (pe_int)) (pe_int)) (pe_int)) (pg_sub (pv 0) (pe_int) set_list)) (pss_cons (ps_ret (pe_op op_mod (pe_op op_fdiv (pe_op op_mod (pe_op op_mul (k_ixL K rfl (pv 0) (pe_int)) (k_ixL K rfl (pv 0) (pe_int))) (pe_int)) (pe_int)) (pv 1))) pss_nil)), ?_⟩) (fun a _ => out_eq _ _) (fun _ e => e.elim)
  intro a ha
  obtain ⟨p_state, state_, many_⟩ := a
  obtain ⟨hp1, hp2, hp3, hp4, hp5⟩ : state_.length = 2 ∧ 0 ≤ ixI state_ 1 ∧ ixI state_ 1 < 2147483647 ∧ 0 < many_ ∧ many_ ≤ 1000 := ha
  unfold m_law_take_c
  show XB _ ⟨[some (isr p_state), some (isa (many_ : Int)), none], [lstC p_state (state_ : List Int)]⟩ _ _ ((fun (e : Empty) => e.elim))
  exact b_guard (CE := fun (e : Empty) => e.elim) (t_t (x_gt (x_ixO (α := Int) (xs := state_) (p := p_state) 0 (x_var (R := isr p_state)) (x_int) (by walk_at "vc")) (x_int))) (fun h1 => b_asgV (i := 2) (x_mod (x_ixO (α := Int) (xs := state_) (p := p_state) 0 (x_var (R := isr p_state)) (x_int) (by walk_at "vc")) (x_var (R := isa (many_ : Int))) (by walk_at "vc")) (fun digit_2 hdigit_2 => b_setL (α := Int) (xs := state_) (p := p_state) 0 (x_fdiv (x_ixO (α := Int) (xs := state_) (p := p_state) 0 (x_var (R := isr p_state)) (x_int) (by walk_at "vc")) (x_var (R := isa (many_ : Int))) (by walk_at "vc")) (x_var (R := isr p_state)) (x_int) (by walk_at "vc") (b_let (x := (setI state_ (0 : Int) ((ixI state_ (0 : Int)) / many_))) (fun (z3 : List Int) => ⟨[some (isr p_state), some (isa (many_ : Int)), some (isa (digit_2 : Int))], [lstC p_state (z3 : List Int)]⟩) (fun z3 hz3 => have hlz3 := congrArg List.length hz3; b_retS (r := (digit_2, z3)) (x_var (R := isa (digit_2 : Int))) (hO := .cons₂ _ (.slnil)))))) (fun h1 => b_setL (α := Int) (xs := state_) (p := p_state) 0 (x_mod (x_add (x_mul (x_ixO (α := Int) (xs := state_) (p := p_state) 0 (x_var (R := isr p_state)) (x_int) (by walk_at "vc")) (x_int) (by walk_at "vc")) (x_int)) (x_int) (by walk_at "vc")) (x_var (R := isr p_state)) (x_int) (by walk_at "vc") (b_let (x := (setI state_ (1 : Int) ((((ixI state_ (1 : Int)) * (69621 : Int)) + (12345 : Int)) % (2147483647 : Int)))) (fun (z4 : List Int) => ⟨[some (isr p_state), some (isa (many_ : Int)), none], [lstC p_state (z4 : List Int)]⟩) (fun z4 hz4 => have hlz4 := congrArg List.length hz4; b_retS (r := ((((((ixI z4 (1 : Int)) * (ixI z4 (1 : Int))) % (2147483629 : Int)) / (64 : Int)) % many_), z4)) (x_mod (x_fdiv (x_mod (x_mul (x_ixO (α := Int) (xs := z4) (p := p_state) 0 (x_var (R := isr p_state)) (x_int) (by walk_at "vc")) (x_ixO (α := Int) (xs := z4) (p := p_state) 0 (x_var (R := isr p_state)) (x_int) (by walk_at "vc")) (by subst_vars; rw [ixI_setI (by omega) (by omega)]; left; constructor <;> omega)) (x_int) (by walk_at "vc")) (x_int) (by walk_at "vc")) (x_var (R := isa (many_ : Int))) (by walk_at "vc")) (hO := .cons₂ _ (.slnil)))))

def fp__law_take (K : Fg) : Fs := Fs.mk (Addr × Pot × Int) (Int × Pot) Empty (fun a => 0 < a.2.2 ∧ a.2.2 ≤ 1000) (fun a => [isr a.1, isa (a.2.2 : Int)]) (fun a => [lstC a.1 (potL a.2.1)]) (fun a => io Int Pot (fun z => [lstC a.1 (potL z)])) (fun a => .rt (takeP a.2.1 a.2.2))
theorem op__law_take (M : Md fa fn K mg base) : Cal P w K mg base CX0 1 "_law_take" (fp__law_take K).sp := (ok__law_take M).imp (fun vs H Q E => Fs.via (fP := fp__law_take K) (f2 := fs__law_take K) (fun a => (a.1, potL a.2.1, a.2.2)) (fun a => ((takeP a.2.1 a.2.2).1, potL (takeP a.2.1 a.2.2).2)) (fun a => takeP a.2.1 a.2.2) (fun a ha => ⟨⟨rfl, a.2.1.h.1, a.2.1.h.2, ha.1, ha.2⟩, congrArg Ctl.rt (take_p a.2.1 a.2.2), rfl⟩) (fun _ => rfl) (fun _ => rfl) (fun _ _ => rfl) (fun _ _ _ _ _ h => h) vs H Q E)

def fs__law_pot (K : Fg) : Fs := Fs.mk ((List Int) × Int) (List Int) Empty (fun (a : (List Int) × Int) => 0 ≤ (a.2) ∧ (a.2) ≤ 100) (fun (a : (List Int) × Int) => [isq K a.1, isa (a.2 : Int)]) (fun a => []) (fun a => nu Int) (fun a => .rt (m_law_pot a.1 a.2))
abbrev N__law_pot : List Str := ["script", "k", "cell"]
theorem sc__law_pot : FnScope N__law_pot ["script", "k"] (defScope s__law_pot) := ⟨rfl, rfl, rfl, by decide +kernel, rfl, by decide +kernel, by decide +kernel⟩
set_option maxHeartbeats 4000000 in
theorem ok__law_pot (M : Md fa fn K mg base) : Cal P w K mg base CX0 1 "_law_pot" (fs__law_pot K).sp := by
  obtain ⟨fd, F⟩ := M.says.def_ 19 (d := d__law_pot) rfl
  have sc := sc__law_pot
  refine cal_mk (P := P) (w := w) (fs__law_pot K) (N := N__law_pot) F sc (M.gl 41) (FunD.bindsN F fun _ _ _ _ _ _ us hl => match us, hl with | [_, _], _ => rfl) (fun _ => rfl) (fun a => m_law_pot_c a.1 a.2) (fun _ e => e.elim) (fun _ e => e.elim) (fun cdv A outer s H E hr => ⟨_, pss_cons (ps_set (i := 2) sc.nd rfl (by first | exact Or.inl rfl | exact Or.inr rfl) (pe_int)) (pss_cons (ps_if (pt_cmpR op_lt (pv 1) (k_cb (c_lenQ K rfl) (M.fr 4) bt_len (pa_cons (pv 0) pa_nil)) (nomark _)) (pss_cons (ps_set (i := 2) sc.nd rfl (by first | exact Or.inl rfl | exact Or.inr rfl) (pe_op op_mod (k_cb c_abs (M.fr 40) bt_abs (pa_cons (k_ixL K rfl (pv 0) (pv 1)) pa_nil)) (pe_op op_powW (pe_op op_pow (pe_int) (pe_int)) (pe_int)))) (pss_nil)) (pss_nil)) (pss_cons (ps_ret (pe_lst (pa_cons (pe_op op_mul (pv 2) (k_ct c_int1 (M.fr 1) bt_int (pa_cons (pe_cmpR op_ge (pv 2) (pe_op op_pow (pe_int) (pe_int)) (nomark _)) pa_nil))) (pa_cons (pe_op op_mod (pe_op op_pow (pe_op op_add (pe_op op_add (pe_op op_mod (pv 2) (pe_int)) (pe_op op_mul (pe_int) (pv 1))) (pe_int)) (pe_int)) (pe_int)) (pa_nil))))) pss_nil)), ?_⟩) (fun a _ => out_eq _ _) (fun _ e => e.elim)
  intro a ha
  obtain ⟨script_, k_⟩ := a
  obtain ⟨hp1, hp2⟩ : 0 ≤ k_ ∧ k_ ≤ 100 := ha
  unfold m_law_pot_c
  show XB _ ⟨[some (isq K script_), some (isa (k_ : Int)), none], []⟩ _ _ ((fun (e : Empty) => e.elim))
  exact b_asg (i := 2) (x_int) (b_seq (CS := (fun (s2 : Int) => ⟨[some (isq K script_), some (isa (k_ : Int)), some (isa (s2 : Int))], []⟩)) (b_if (t_t (x_lt (x_var (R := isa (k_ : Int))) (x_lenR (x_var (R := isq K script_))))) (fun h1 => b_asgV (i := 2) (x_mod (x_abs (x_ixR (x_var (R := isq K script_)) (x_var (R := isa (k_ : Int))) (by unfold Ib; have := of_decide_eq_true ‹decide (_ < _) = true›; omega))) (x_powW (x_pow (x_int) (x_int) (by exact ⟨by decide, by decide, by decide +kernel⟩)) (x_int) (by exact ⟨by decide, by decide +kernel⟩)) (by decide +kernel)) (fun cell_3 hcell_3 => b_nil (⟨⟨.inr rfl, .inr rfl, .inr rfl, trivial⟩, .slnil⟩))) (fun h1 => b_nil (⟨⟨.inr rfl, .inr rfl, .inr rfl, trivial⟩, .slnil⟩))) (fun s2 hs2 => b_retN (α := Int) (xs := ([(s2 * (b2z (decide (((10 : Int) ^ ((18 : Int)).toNat) ≤ s2)))), (((((s2 % (2147483629 : Int)) + ((7919 : Int) * k_)) + (1 : Int)) ^ ((5 : Int)).toNat) % (2147483647 : Int))] : List Int)) (r := ([(s2 * (b2z (decide (((10 : Int) ^ ((18 : Int)).toNat) ≤ s2)))), (((((s2 % (2147483629 : Int)) + ((7919 : Int) * k_)) + (1 : Int)) ^ ((5 : Int)).toNat) % (2147483647 : Int))] : List Int)) (n_lst (α := Int) (xs := ([(s2 * (b2z (decide (((10 : Int) ^ ((18 : Int)).toNat) ≤ s2)))), (((((s2 % (2147483629 : Int)) + ((7919 : Int) * k_)) + (1 : Int)) ^ ((5 : Int)).toNat) % (2147483647 : Int))] : List Int)) (a_cons (x_mul (x_var (R := isa (s2 : Int))) (x_intB (x_ge (x_var (R := isa (s2 : Int))) (x_pow (x_int) (x_int) (by exact ⟨by decide, by decide, by decide +kernel⟩)))) (by exact Or.inr (b2z_64 _))) (a_cons (x_mod (x_pow (x_add (x_add (x_mod (x_var (R := isa (s2 : Int))) (x_int) (by walk_at "vc")) (x_mul (x_int) (x_var (R := isa (k_ : Int))) (by walk_at "vc"))) (x_int)) (x_int) (by refine ⟨by decide, by decide, ?_⟩; omega)) (x_int) (by walk_at "vc")) (a_nil))) (by simp only [List.length_cons, List.length_nil]; omega))))

def fp__law_pot (K : Fg) : Fs := Fs.mk (List Int × Int) Pot Empty (fun a => 0 ≤ a.2 ∧ a.2 ≤ 100) (fun a => [isq K a.1, isa (a.2 : Int)]) (fun a => []) (fun a => nuP) (fun a => .rt (potP a.1 a.2))
theorem op__law_pot (M : Md fa fn K mg base) : Cal P w K mg base CX0 1 "_law_pot" (fp__law_pot K).sp := (ok__law_pot M).imp (fun vs H Q E => Fs.via (fP := fp__law_pot K) (f2 := fs__law_pot K) (fun a => a) (fun a => potL (potP a.1 a.2)) (fun a => potP a.1 a.2) (fun a ha => ⟨ha, congrArg Ctl.rt (pot_k a.1 a.2), rfl⟩) (fun _ => rfl) (fun _ => rfl) (fun _ _ => rfl) (fun _ _ _ _ _ h => h) vs H Q E)

def fs__law_some_signs (K : Fg) : Fs := Fs.mk (Addr × Pot) ((List Tx) × Pot) Empty (fun (a : Addr × Pot) => True) (fun (a : Addr × Pot) => [isr a.1]) (fun a => [lstC a.1 (potL a.2)]) (fun a => io (List Tx) (Pot) (fun z => [lstC a.1 (potL z)])) (fun a => .rt (m_law_some_signs a.2))
abbrev N__law_some_signs : List Str := ["state", "turn"]
theorem sc__law_some_signs : FnScope N__law_some_signs ["state"] (defScope s__law_some_signs) := ⟨rfl, rfl, rfl, by decide +kernel, rfl, by decide +kernel, by decide +kernel⟩
set_option maxHeartbeats 4000000 in
theorem ok__law_some_signs (M : Md fa fn K mg base) : Cal P w K mg base CX0 2 "_law_some_signs" (fs__law_some_signs K).sp := by
  obtain ⟨fd, F⟩ := M.says.def_ 20 (d := d__law_some_signs) rfl
  have sc := sc__law_some_signs
  refine cal_mk (P := P) (w := w) (fs__law_some_signs K) (N := N__law_some_signs) F sc (M.gl 42) (FunD.bindsN F fun _ _ _ _ _ _ us hl => match us, hl with | [_], _ => rfl) (fun _ => rfl) (fun a => m_law_some_signs_c a.2) (fun _ e => e.elim) (fun _ e => e.elim) (fun cdv A outer s H E hr => ⟨_, pss_cons (ps_ret (pe_lc (own := [("turn", 1)]) (g := gName 1) (tt := tYes) rfl sc.nd (pi_range1 rfl (M.fr 7) (pa_cons (pe_op op_add (pe_int) (pe_callC (op__law_take M) hr (by decide) pass0 (pa_cons (pv 0) (pa_cons (pe_int) (pa_nil))))) pa_nil)) (blkOk_by (own := [("turn", 1)]) (N := N__law_some_signs) (sc := defScope s__law_some_signs) (by decide +kernel)) (fun _ _ _ _ _ => pg_name (i := 1) sc.nd rfl (by first | exact Or.inl rfl | exact Or.inr rfl)) (fun _ _ _ _ _ => pts_nil) (fun _ _ _ _ _ => k_ixS (pe_str) (pe_callC (op__law_take M) hr (by decide) pass0 (pa_cons (pv 0) (pa_cons (pe_int) (pa_nil))))))) pss_nil, ?_⟩) (fun a _ => out_eq _ _) (fun _ e => e.elim)
  intro a ha
  obtain ⟨p_state, state_⟩ := a
  skip
  unfold m_law_some_signs_c
  show XB _ ⟨[some (isr p_state), none], [lstC p_state (potL (state_ : Pot))]⟩ _ _ ((fun (e : Empty) => e.elim))
  exact have hc1 := take_lt state_ (4 : Int) (by walk_at "vc"); b_retS (r := ((lcS (irange 0 ((1 : Int) + (takeP state_ (4 : Int)).1)) (takeP state_ (4 : Int)).2 (fun (s6 : Pot) (x2 : Int) => ((ixS (tx "abcdefghijklmnopqrstuvwxyz") (takeP s6 (26 : Int)).1), (takeP s6 (26 : Int)).2))).1, (lcS (irange 0 ((1 : Int) + (takeP state_ (4 : Int)).1)) (takeP state_ (4 : Int)).2 (fun (s6 : Pot) (x2 : Int) => ((ixS (tx "abcdefghijklmnopqrstuvwxyz") (takeP s6 (26 : Int)).1), (takeP s6 (26 : Int)).2))).2)) (XN.frz (n_lcS (α := Int) (β := Tx) (is := [1]) (fun s6 => [lstC p_state (potL (s6 : Pot))]) [some (isr p_state), none] (takeP state_ (4 : Int)).2 (fun (s6 : Pot) (x2 : Int) => ((ixS (tx "abcdefghijklmnopqrstuvwxyz") (takeP s6 (26 : Int)).1), (takeP s6 (26 : Int)).2)) (i_rng1 (a_cons (x_add (x_int) (x_call1 (fs := (fp__law_take K)) (r := (takeP state_ (4 : Int))) (c' := lstC p_state (potL ((takeP state_ (4 : Int)).2 : Pot))) 0 (p_state, state_, (4 : Int)) (show 0 < ((4 : Int)) ∧ ((4 : Int)) ≤ 1000 from (by walk_at "vc")) (a_cons (x_var (R := isr p_state)) (a_cons (x_int) (a_nil))))) a_nil) (by walk_at "vc") (by walk_at "vc")) (g_name (α := Int) (i := 1)) (by decide) (fun _ _ => True) (trivial) (fun _ _ _ _ _ => trivial) (fun _ => rfl) (fun n4 x2 s6 hx3 hI => have hfx2 := irange_at hx3; have hc7 := take_lt s6 (26 : Int) (by walk_at "vc"); x_ixS (x_tx "abcdefghijklmnopqrstuvwxyz") (x_call1 (fs := (fp__law_take K)) (r := (takeP s6 (26 : Int))) (c' := lstC p_state (potL ((takeP s6 (26 : Int)).2 : Pot))) 0 (p_state, s6, (26 : Int)) (show 0 < ((26 : Int)) ∧ ((26 : Int)) ≤ 1000 from (by walk_at "vc")) (a_cons (x_var (R := isr p_state)) (a_cons (x_int) (a_nil)))) (by walk_at "vc") (by walk_at "vc")) (by walk_at "vc"))) (hO := .cons₂ _ (.slnil))
def fs__law_next_letter (K : Fg) : Fs := Fs.mk (Addr × Pot × (List Tx) × Tx) (Tx × Pot) Empty (fun (a : Addr × Pot × (List Tx) × Tx) => (a.2.2.1).length ≤ 4 ∧ 0 < (a.2.2.1).length ∧ (a.2.2.2).length ≤ 60) (fun (a : Addr × Pot × (List Tx) × Tx) => [isr a.1, isa (a.2.2.1 : (List Tx)), isa (a.2.2.2 : Tx)]) (fun a => [lstC a.1 (potL a.2.1)]) (fun a => io Tx (Pot) (fun z => [lstC a.1 (potL z)])) (fun a => .rt (m_law_next_letter a.2.1 a.2.2.1 a.2.2.2))
abbrev N__law_next_letter : List Str := ["state", "signs", "row", "some"]
theorem sc__law_next_letter : FnScope N__law_next_letter ["state", "signs", "row"] (defScope s__law_next_letter) := ⟨rfl, rfl, rfl, by decide +kernel, rfl, by decide +kernel, by decide +kernel⟩
set_option maxHeartbeats 4000000 in
theorem ok__law_next_letter (M : Md fa fn K mg base) : Cal P w K mg base CX0 2 "_law_next_letter" (fs__law_next_letter K).sp := by
  obtain ⟨fd, F⟩ := M.says.def_ 21 (d := d__law_next_letter) rfl
  have sc := sc__law_next_letter
  refine cal_mk (P := P) (w := w) (fs__law_next_letter K) (N := N__law_next_letter) F sc (M.gl 43) (FunD.bindsN F fun _ _ _ _ _ _ us hl => match us, hl with | [_, _, _], _ => rfl) (fun _ => rfl) (fun a => m_law_next_letter_c a.2.1 a.2.2.1 a.2.2.2) (fun _ e => e.elim) (fun _ e => e.elim) (fun cdv A outer s H E hr => ⟨_, pss_cons (ps_set (i := 3) sc.nd rfl (by first | exact Or.inl rfl | exact Or.inr rfl) (pe_lst (pa_cons (k_ixL K rfl (pv 1) (pe_callC (op__law_take M) hr (by decide) pass0 (pa_cons (pv 0) (pa_cons (k_cb (c_lenQ K rfl) (M.fr 4) bt_len (pa_cons (pv 1) pa_nil)) (pa_nil))))) (pa_cons (k_ixS (pe_str) (pe_callC (op__law_take M) hr (by decide) pass0 (pa_cons (pv 0) (pa_cons (pe_int) (pa_nil))))) (pa_nil))))) (pss_cons (ps_if (pt_cmpR (op_eqT hr) (pv 2) (pe_str) (nomark _)) (pss_cons (ps_ret (k_ixL K rfl (pv 3) (pe_int))) pss_nil) pss_nil) (pss_cons (ps_expr (k_bm K rfl PySem.F.plainAttrs_list PySem.F.slot_list_append PySem.F.type_list_append mt_append (pv 3) (pa_cons (k_ixS (pv 2) (pe_un un_neg (pe_int))) pa_nil))) (pss_cons (ps_expr (k_bm K rfl PySem.F.plainAttrs_list PySem.F.slot_list_append PySem.F.type_list_append mt_append (pv 3) (pa_cons (k_ixS (pv 2) (pe_op op_sub (pe_op op_sub (k_cb c_lenZ (M.fr 4) bt_len (pa_cons (pv 2) pa_nil)) (pe_int)) (pe_callC (op__law_take M) hr (by decide) pass0 (pa_cons (pv 0) (pa_cons (k_cb (c_min2 rfl) (M.fr 10) bt_min (pa_cons (k_cb c_lenZ (M.fr 4) bt_len (pa_cons (pv 2) pa_nil)) (pa_cons (pe_int) pa_nil))) (pa_nil)))))) pa_nil))) (pss_cons (ps_expr (k_bm K rfl PySem.F.plainAttrs_list PySem.F.slot_list_append PySem.F.type_list_append mt_append (pv 3) (pa_cons (k_ixS (pv 2) (pe_op op_fdiv (k_cb c_lenZ (M.fr 4) bt_len (pa_cons (pv 2) pa_nil)) (pe_int))) pa_nil))) (pss_cons (ps_ret (k_ixL K rfl (pv 3) (k_ixL K rfl (pe_lst (pa_cons (pe_int) (pa_cons (pe_int) (pa_cons (pe_int) (pa_cons (pe_int) (pa_cons (pe_int) (pa_cons (pe_int) (pa_cons (pe_int) (pa_nil))))))))) (pe_callC (op__law_take M) hr (by decide) pass0 (pa_cons (pv 0) (pa_cons (pe_int) (pa_nil))))))) pss_nil))))), ?_⟩) (fun a _ => out_eq _ _) (fun _ e => e.elim)
  intro a ha
  obtain ⟨p_state, state_, signs_, row_⟩ := a
  obtain ⟨hp1, hp2, hp3⟩ : signs_.length ≤ 4 ∧ 0 < signs_.length ∧ row_.length ≤ 60 := ha
  unfold m_law_next_letter_c
  show XB _ ⟨[some (isr p_state), some (isa (signs_ : (List Tx))), some (isa (row_ : Tx)), none], [lstC p_state (potL (state_ : Pot))]⟩ _ _ ((fun (e : Empty) => e.elim))
  exact have hc1 := take_lt state_ ((List.length signs_ : Nat) : Int) (by walk_at "vc"); have hc2 := take_lt (takeP state_ ((List.length signs_ : Nat) : Int)).2 (26 : Int) (by walk_at "vc"); b_asgN (i := 3) (n_lst (α := Tx) (xs := ([(ixI signs_ (takeP state_ ((List.length signs_ : Nat) : Int)).1), (ixS (tx "abcdefghijklmnopqrstuvwxyz") (takeP (takeP state_ ((List.length signs_ : Nat) : Int)).2 (26 : Int)).1)] : List Tx)) (a_cons (x_ixL (α := Tx) (x_var (R := isa (signs_ : (List Tx)))) (x_call1 (fs := (fp__law_take K)) (r := (takeP state_ ((List.length signs_ : Nat) : Int))) (c' := lstC p_state (potL ((takeP state_ ((List.length signs_ : Nat) : Int)).2 : Pot))) 0 (p_state, state_, ((List.length signs_ : Nat) : Int)) (show 0 < (((List.length signs_ : Nat) : Int)) ∧ (((List.length signs_ : Nat) : Int)) ≤ 1000 from (by walk_at "vc")) (a_cons (x_var (R := isr p_state)) (a_cons (x_lenL (α := Tx) (x_var (R := isa (signs_ : (List Tx))))) (a_nil)))) (by walk_at "vc")) (a_cons (x_ixS (x_tx "abcdefghijklmnopqrstuvwxyz") (x_call1 (fs := (fp__law_take K)) (r := (takeP (takeP state_ ((List.length signs_ : Nat) : Int)).2 (26 : Int))) (c' := lstC p_state (potL ((takeP (takeP state_ ((List.length signs_ : Nat) : Int)).2 (26 : Int)).2 : Pot))) 0 (p_state, (takeP state_ ((List.length signs_ : Nat) : Int)).2, (26 : Int)) (show 0 < ((26 : Int)) ∧ ((26 : Int)) ≤ 1000 from (by walk_at "vc")) (a_cons (x_var (R := isr p_state)) (a_cons (x_int) (a_nil)))) (by walk_at "vc") (by walk_at "vc")) (a_nil))) (by simp only [List.length_cons, List.length_nil]; omega)) (fun p_some3 => b_let (x := (ixI signs_ (takeP state_ ((List.length signs_ : Nat) : Int)).1)) (fun (z4 : Tx) => ⟨[some (isr p_state), some (isa (signs_ : (List Tx))), some (isa (row_ : Tx)), some (isr p_some3)], [lstC p_some3 (([z4, (ixS (tx "abcdefghijklmnopqrstuvwxyz") (takeP (takeP state_ ((List.length signs_ : Nat) : Int)).2 (26 : Int)).1)] : List Tx) : List Tx), lstC p_state (potL ((takeP (takeP state_ ((List.length signs_ : Nat) : Int)).2 (26 : Int)).2 : Pot))]⟩) (fun z4 hz4 => have hlz4 := congrArg List.length hz4; b_let (x := (ixS (tx "abcdefghijklmnopqrstuvwxyz") (takeP (takeP state_ ((List.length signs_ : Nat) : Int)).2 (26 : Int)).1)) (fun (z5 : Tx) => ⟨[some (isr p_state), some (isa (signs_ : (List Tx))), some (isa (row_ : Tx)), some (isr p_some3)], [lstC p_some3 (([z4, z5] : List Tx) : List Tx), lstC p_state (potL ((takeP (takeP state_ ((List.length signs_ : Nat) : Int)).2 (26 : Int)).2 : Pot))]⟩) (fun z5 hz5 => have hlz5 := congrArg List.length hz5; b_let (x := (takeP (takeP state_ ((List.length signs_ : Nat) : Int)).2 (26 : Int)).2) (fun (z6 : Pot) => ⟨[some (isr p_state), some (isa (signs_ : (List Tx))), some (isa (row_ : Tx)), some (isr p_some3)], [lstC p_some3 (([z4, z5] : List Tx) : List Tx), lstC p_state (potL (z6 : Pot))]⟩) (fun z6 hz6 => b_guard (CE := fun (e : Empty) => e.elim) (t_t (x_eq (α := Tx) (x_var (R := isa (row_ : Tx))) (x_tx ""))) (fun h7 => b_retS (r := (z4, z6)) (x_ixOc (α := Tx) (xs := ([z4, z5] : List Tx)) (p := p_some3) (x := z4) 0 (x_var (R := isr p_some3)) (x_int) (by walk_at "vc")) (hO := .cons _ (.cons₂ _ (.slnil)))) (fun h7 => have hrow := len_pos ‹_›; b_app (α := Tx) (xs := ([z4, z5] : List Tx)) (p := p_some3) 0 (x_var (R := isr p_some3)) (x_ixS (x_var (R := isa (row_ : Tx))) (x_neg (x_int)) (by walk_at "vc") (by walk_at "vc")) (by walk_at "vc") (have hc8 := take_lt z6 (min ((List.length row_ : Nat) : Int) (5 : Int)) (by walk_at "vc"); b_app (α := Tx) (xs := ([z4, z5, (ixS row_ (-(1 : Int)))] : List Tx)) (p := p_some3) 0 (x_var (R := isr p_some3)) (x_ixS (x_var (R := isa (row_ : Tx))) (x_sub (x_sub (x_lenS (x_var (R := isa (row_ : Tx))) (by walk_at "vc")) (x_int)) (x_call1 (fs := (fp__law_take K)) (r := (takeP z6 (min ((List.length row_ : Nat) : Int) (5 : Int)))) (c' := lstC p_state (potL ((takeP z6 (min ((List.length row_ : Nat) : Int) (5 : Int))).2 : Pot))) 1 (p_state, z6, (min ((List.length row_ : Nat) : Int) (5 : Int))) (show 0 < ((min ((List.length row_ : Nat) : Int) (5 : Int))) ∧ ((min ((List.length row_ : Nat) : Int) (5 : Int))) ≤ 1000 from (by walk_at "vc")) (a_cons (x_var (R := isr p_state)) (a_cons (x_min2 (x_lenS (x_var (R := isa (row_ : Tx))) (by walk_at "vc")) (x_int)) (a_nil))))) (by walk_at "vc") (by walk_at "vc")) (by walk_at "vc") (b_let (x := (ixS row_ ((((List.length row_ : Nat) : Int) - (1 : Int)) - (takeP z6 (min ((List.length row_ : Nat) : Int) (5 : Int))).1))) (fun (z9 : Tx) => ⟨[some (isr p_state), some (isa (signs_ : (List Tx))), some (isa (row_ : Tx)), some (isr p_some3)], [lstC p_some3 (([z4, z5, (ixS row_ (-(1 : Int))), z9] : List Tx) : List Tx), lstC p_state (potL ((takeP z6 (min ((List.length row_ : Nat) : Int) (5 : Int))).2 : Pot))]⟩) (fun z9 hz9 => have hlz9 := congrArg List.length hz9; b_let (x := (takeP z6 (min ((List.length row_ : Nat) : Int) (5 : Int))).2) (fun (z10 : Pot) => ⟨[some (isr p_state), some (isa (signs_ : (List Tx))), some (isa (row_ : Tx)), some (isr p_some3)], [lstC p_some3 (([z4, z5, (ixS row_ (-(1 : Int))), z9] : List Tx) : List Tx), lstC p_state (potL (z10 : Pot))]⟩) (fun z10 hz10 => b_app (α := Tx) (xs := ([z4, z5, (ixS row_ (-(1 : Int))), z9] : List Tx)) (p := p_some3) 0 (x_var (R := isr p_some3)) (x_ixS (x_var (R := isa (row_ : Tx))) (x_fdiv (x_lenS (x_var (R := isa (row_ : Tx))) (by walk_at "vc")) (x_int) (by walk_at "vc")) (by walk_at "vc") (by walk_at "vc")) (by walk_at "vc") (b_let (x := (ixS row_ (((List.length row_ : Nat) : Int) / (2 : Int)))) (fun (z11 : Tx) => ⟨[some (isr p_state), some (isa (signs_ : (List Tx))), some (isa (row_ : Tx)), some (isr p_some3)], [lstC p_some3 (([z4, z5, (ixS row_ (-(1 : Int))), z9, z11] : List Tx) : List Tx), lstC p_state (potL (z10 : Pot))]⟩) (fun z11 hz11 => have hlz11 := congrArg List.length hz11; have hc12 := take_lt z10 (7 : Int) (by walk_at "vc"); b_retS (r := ((ixI ([z4, z5, (ixS row_ (-(1 : Int))), z9, z11] : List Tx) (ixI ([(0 : Int), (0 : Int), (2 : Int), (3 : Int), (3 : Int), (4 : Int), (1 : Int)] : List Int) (takeP z10 (7 : Int)).1)), (takeP z10 (7 : Int)).2)) (x_ixO (α := Tx) (xs := ([z4, z5, (ixS row_ (-(1 : Int))), z9, z11] : List Tx)) (p := p_some3) 0 (x_var (R := isr p_some3)) (x_ixL (α := Int) (XN.frz (n_lst (α := Int) (xs := ([(0 : Int), (0 : Int), (2 : Int), (3 : Int), (3 : Int), (4 : Int), (1 : Int)] : List Int)) (a_cons (x_int) (a_cons (x_int) (a_cons (x_int) (a_cons (x_int) (a_cons (x_int) (a_cons (x_int) (a_cons (x_int) (a_nil)))))))) (by simp only [List.length_cons, List.length_nil]; omega))) (x_call1 (fs := (fp__law_take K)) (r := (takeP z10 (7 : Int))) (c' := lstC p_state (potL ((takeP z10 (7 : Int)).2 : Pot))) 1 (p_state, z10, (7 : Int)) (show 0 < ((7 : Int)) ∧ ((7 : Int)) ≤ 1000 from (by walk_at "vc")) (a_cons (x_var (R := isr p_state)) (a_cons (x_int) (a_nil)))) (by walk_at "vc")) (by exact pick_ib _ _ (by walk_at "vc"))) (hO := .cons _ (.cons₂ _ (.slnil))))))))))))))
def fs__law_stands_so (K : Fg) : Fs := Fs.mk (Kp × Tx × Tx × (List Int)) Bool Empty (fun (a : Kp × Tx × Tx × (List Int)) => (a.2.2.1).length ≤ 60 ∧ (a.2.2.2).length ≤ 60) (fun (a : Kp × Tx × Tx × (List Int)) => [isr a.1.p, isa (a.2.2.1 : Tx), isa (a.2.2.2 : (List Int))]) (fun a => [kpC (He.ga K "Keeper") a.1 (kst a.2.1)]) (fun a => ro Bool [kpC (He.ga K "Keeper") a.1 (kst a.2.1)]) (fun a => .rt (m_law_stands_so a.2.1 a.2.2.1 a.2.2.2))
abbrev N__law_stands_so : List Str := ["keeper", "row", "marks", "behind"]
theorem sc__law_stands_so : FnScope N__law_stands_so ["keeper", "row", "marks"] (defScope s__law_stands_so) := ⟨rfl, rfl, rfl, by decide +kernel, rfl, by decide +kernel, by decide +kernel⟩
set_option maxHeartbeats 4000000 in
theorem ok__law_stands_so (M : Md fa fn K mg base) : Cal P w K mg base CX0 2 "_law_stands_so" (fs__law_stands_so K).sp := by
  obtain ⟨fd, F⟩ := M.says.def_ 22 (d := d__law_stands_so) rfl
  have sc := sc__law_stands_so
  refine cal_mk (P := P) (w := w) (fs__law_stands_so K) (N := N__law_stands_so) F sc (M.gl 44) (FunD.bindsN F fun _ _ _ _ _ _ us hl => match us, hl with | [_, _, _], _ => rfl) (fun _ => rfl) (fun a => m_law_stands_so_c a.2.1 a.2.2.1 a.2.2.2) (fun _ e => e.elim) (fun _ e => e.elim) (fun cdv A outer s H E hr => ⟨_, pss_cons (ps_set (i := 3) sc.nd rfl (by first | exact Or.inl rfl | exact Or.inr rfl) (pe_int)) (pss_cons (ps_if (pt_cmpR (op_neT hr) (pv 2) (pe_lst pa_nil) (nomark _)) (pss_cons (ps_set (i := 3) sc.nd rfl (by first | exact Or.inl rfl | exact Or.inr rfl) (pe_op op_add (k_ixL K rfl (pv 2) (pe_un un_neg (pe_int))) (pe_int))) (pss_nil)) (pss_nil)) (pss_cons (ps_ret (pe_and (pe_cmpR (op_eqT hr) (pe_methC0 (op_Keeper_row M) (M.cls 21) hr (by decide) pass0 (pv 0)) (pv 1) (nomark _)) (pe_and (pe_cmpR (op_eqT hr) (pe_methC0 (op_Keeper_marks M) (M.cls 21) hr (by decide) pass0 (pv 0)) (pv 2) (nomark _)) (pe_one (pe_cmpR (op_eqT hr) (pe_methC0 (op_Keeper_begin M) (M.cls 21) hr (by decide) pass0 (pv 0)) (pv 3) (nomark _)))))) pss_nil)), ?_⟩) (fun a _ => out_eq _ _) (fun _ e => e.elim)
  intro a ha
  obtain ⟨k_keeper, keeper_, row_, marks_⟩ := a
  obtain ⟨hp1, hp2⟩ : row_.length ≤ 60 ∧ marks_.length ≤ 60 := ha
  unfold m_law_stands_so_c
  show XB _ ⟨[some (isr k_keeper.p), some (isa (row_ : Tx)), some (isa (marks_ : (List Int))), none], [kpC (He.ga K "Keeper") k_keeper (kst (keeper_ : Tx))]⟩ _ _ ((fun (e : Empty) => e.elim))
  exact b_asg (i := 3) (x_int) (b_seq (CS := (fun (s2 : Int) => ⟨[some (isr k_keeper.p), some (isa (row_ : Tx)), some (isa (marks_ : (List Int))), some (isa (s2 : Int))], [kpC (He.ga K "Keeper") k_keeper (kst (keeper_ : Tx))]⟩)) (b_if (t_t (x_ne (α := (List Int)) (x_var (R := isa (marks_ : (List Int)))) (XN.frz (n_nil (α := Int))))) (fun h1 => b_asgV (i := 3) (x_add (x_ixL (α := Int) (x_var (R := isa (marks_ : (List Int)))) (x_neg (x_int)) (by walk_at "vc")) (x_int)) (fun behind_3 hbehind_3 => b_nil (⟨⟨.inr rfl, .inr rfl, .inr rfl, .inr rfl, trivial⟩, .cons₂ _ (.slnil)⟩))) (fun h1 => b_nil (⟨⟨.inr rfl, .inr rfl, .inr rfl, .inr rfl, trivial⟩, .cons₂ _ (.slnil)⟩))) (fun s2 hs2 => b_retS (r := ((decide ((k_row keeper_) = row_)) && ((decide ((cuts keeper_) = marks_)) && (decide ((k_beg keeper_) = s2))))) (x_and (x_eq (α := Tx) (x_methR (fs := fp_Keeper_row K) (r := (k_row keeper_)) (k := k_keeper) (s := (kst keeper_)) 0 (k_keeper, keeper_) trivial (x_var (R := isr k_keeper.p)) (a_nil)) (x_var (R := isa (row_ : Tx)))) (fun hb7 => x_and (have hc5 := cuts_len keeper_; x_eq (α := (List Int)) (x_methR (fs := fp_Keeper_marks K) (r := (cuts keeper_)) (k := k_keeper) (s := (kst keeper_)) 0 (k_keeper, keeper_) trivial (x_var (R := isr k_keeper.p)) (a_nil) (hV := fun _ _ _ h => nuS_isa h)) (x_var (R := isa (marks_ : (List Int))))) (fun hb6 => x_eq (α := Int) (x_methR (fs := fp_Keeper_begin K) (r := (k_beg keeper_)) (k := k_keeper) (s := (kst keeper_)) 0 (k_keeper, keeper_) trivial (x_var (R := isr k_keeper.p)) (a_nil)) (x_var (R := isa (s2 : Int)))))) (hO := .cons₂ _ (.slnil))))
def fs__law_grown (K : Fg) : Fs := Fs.mk (Addr × Kp × Addr × Pot × Tx × (List (Tx × (List Int))) × Int) (Bool × Pot × Tx × (List (Tx × (List Int)))) Empty (fun (a : Addr × Kp × Addr × Pot × Tx × (List (Tx × (List Int))) × Int) => (a.2.2.2.2.2.1) = momsOf (a.2.2.2.2.1) ∧ LowT (a.2.2.2.2.1) ∧ 0 ≤ (a.2.2.2.2.2.2) ∧ ((a.2.2.2.2.1).length : Int) + (a.2.2.2.2.2.2) ≤ 60) (fun (a : Addr × Kp × Addr × Pot × Tx × (List (Tx × (List Int))) × Int) => [isr a.1, isr a.2.1.p, isr a.2.2.1, isa (a.2.2.2.2.2.2 : Int)]) (fun a => [lstC a.1 (potL a.2.2.2.1), kpC (He.ga K "Keeper") a.2.1 (kst a.2.2.2.2.1), lstC a.2.2.1 a.2.2.2.2.2.1]) (fun a => io Bool (Pot × Tx × (List (Tx × (List Int)))) (fun z => [lstC a.1 (potL z.1), kpC (He.ga K "Keeper") a.2.1 (kst z.2.1), lstC a.2.2.1 z.2.2])) (fun a => .rt (m_law_grown a.2.2.2.1 a.2.2.2.2.1 a.2.2.2.2.2.1 a.2.2.2.2.2.2))
abbrev N__law_grown : List Str := ["state", "keeper", "moments", "many", "signs", "turn", "row", "marks", "letter", "more"]
theorem sc__law_grown : FnScope N__law_grown ["state", "keeper", "moments", "many"] (defScope s__law_grown) := ⟨rfl, rfl, rfl, by decide +kernel, rfl, by decide +kernel, by decide +kernel⟩
set_option maxHeartbeats 4000000 in
theorem ok__law_grown (M : Md fa fn K mg base) : Cal P w K mg base CX0 3 "_law_grown" (fs__law_grown K).sp := by
  obtain ⟨fd, F⟩ := M.says.def_ 23 (d := d__law_grown) rfl
  have sc := sc__law_grown
  refine cal_mk (P := P) (w := w) (fs__law_grown K) (N := N__law_grown) F sc (M.gl 45) (FunD.bindsN F fun _ _ _ _ _ _ us hl => match us, hl with | [_, _, _, _], _ => rfl) (fun _ => rfl) (fun a => m_law_grown_c a.2.2.2.1 a.2.2.2.2.1 a.2.2.2.2.2.1 a.2.2.2.2.2.2) (fun _ e => e.elim) (fun _ e => e.elim) (fun cdv A outer s H E hr => ⟨_, pss_cons (ps_set (i := 4) sc.nd rfl (by first | exact Or.inl rfl | exact Or.inr rfl) (pe_callC (ok__law_some_signs M) hr (by decide) pass0 (pa_cons (pv 0) (pa_nil)))) (pss_cons (ps_for PassesOwn.never rfl (pi_range1 rfl (M.fr 7) (pa_cons (pv 3) pa_nil)) (pg_name (i := 5) sc.nd rfl (by first | exact Or.inl rfl | exact Or.inr rfl)) (pss_cons (ps_asg (k_ixL K rfl (pv 2) (pe_un un_neg (pe_int))) (k_gtup K rfl rfl (pgs_cons (pg_name (i := 6) sc.nd rfl (by first | exact Or.inl rfl | exact Or.inr rfl)) (pgs_cons (pg_name (i := 7) sc.nd rfl (by first | exact Or.inl rfl | exact Or.inr rfl)) pgs_nil)))) (pss_cons (ps_set (i := 8) sc.nd rfl (by first | exact Or.inl rfl | exact Or.inr rfl) (pe_callC (ok__law_next_letter M) hr (by decide) pass0 (pa_cons (pv 0) (pa_cons (pv 4) (pa_cons (pv 6) (pa_nil)))))) (pss_cons (ps_expr (pe_methC (op_Keeper_put M) (M.cls 21) hr (by decide) pass0 (pv 1) (pa_cons (pv 8) (pa_nil)))) (pss_cons (ps_set (i := 9) sc.nd rfl (by first | exact Or.inl rfl | exact Or.inr rfl) (pe_methC0 (op_Keeper_marks M) (M.cls 21) hr (by decide) pass0 (pv 1))) (pss_cons (ps_if (PW.pt (pw_and (pt_cmpR (op_neT hr) (pv 9) (pv 7) (nomark _)) (pw_and1 (pt_cmpR (op_neT hr) (pv 9) (pe_op op_cat (pv 7) (pe_lst (pa_cons (k_cb c_lenZ (M.fr 4) bt_len (pa_cons (pv 6) pa_nil)) (pa_nil)))) (nomark _))))) (pss_cons (ps_ret (pe_bl)) pss_nil) pss_nil) (pss_cons (ps_expr (k_bm K rfl PySem.F.plainAttrs_list PySem.F.slot_list_append PySem.F.type_list_append mt_append (pv 2) (pa_cons (pe_tup (pa_cons (pe_op op_add_str (pv 6) (pv 8)) (pa_cons (pv 9) (pa_nil)))) pa_nil))) (pss_nil)))))))) (pss_cons (ps_ret (pe_bl)) pss_nil)), ?_⟩) (fun a _ => out_eq _ _) (fun _ e => e.elim)
  intro a ha
  obtain ⟨p_state, k_keeper, p_moments, state_, keeper_, moments_, many_⟩ := a
  obtain ⟨hp1, hp2, hp3, hp4⟩ : moments_ = momsOf keeper_ ∧ LowT keeper_ ∧ 0 ≤ many_ ∧ (keeper_.length : Int) + many_ ≤ 60 := ha
  unfold m_law_grown_c
  show XB _ ⟨[some (isr p_state), some (isr k_keeper.p), some (isr p_moments), some (isa (many_ : Int)), none, none, none, none, none, none], [lstC p_state (potL (state_ : Pot)), kpC (He.ga K "Keeper") k_keeper (kst (keeper_ : Tx)), lstC p_moments (moments_ : List (Tx × (List Int)))]⟩ _ _ ((fun (e : Empty) => e.elim))
  exact have hc1 := signs_len state_; have hc2 := signs_L state_; b_asgV (i := 4) (x_call1 (fs := (fs__law_some_signs K)) (r := (m_law_some_signs state_)) (c' := lstC p_state (potL ((m_law_some_signs state_).2 : Pot))) 0 (p_state, state_) trivial (a_cons (x_var (R := isr p_state)) (a_nil))) (fun signs_3 hsigns_3 => have hlsigns_3 := congrArg List.length hsigns_3; b_forS (α := Int) (xs := (irange 0 many_)) (fun (s7 : Pot × Tx × List (Tx × (List Int))) => ⟨[some (isr p_state), some (isr k_keeper.p), some (isr p_moments), some (isa (many_ : Int)), some (isa (signs_3 : (List Tx))), none, none, none, none, none], [lstC p_state (potL (s7.1 : Pot)), kpC (He.ga K "Keeper") k_keeper (kst (s7.2.1 : Tx)), lstC p_moments (s7.2.2 : List (Tx × (List Int)))]⟩) ((m_law_some_signs state_).2, keeper_, moments_) (fun (s7 : Pot × Tx × List (Tx × (List Int))) (x4 : Int) => (letC (ixI s7.2.2 (-(1 : Int))) fun (t_9 : (Tx × (List Int))) => (letC (m_law_next_letter s7.1 signs_3 t_9.1).1 fun (letter_11 : Tx) => (letC (cuts (k_put s7.2.1 letter_11).2) fun (more_13 : (List Int)) => (if ((!(decide (more_13 = t_9.2))) && (!(decide (more_13 = (t_9.2 ++ ([((List.length t_9.1 : Nat) : Int)] : List Int)))))) = true then (.rt (false, ((m_law_next_letter s7.1 signs_3 t_9.1).2, (k_put s7.2.1 letter_11).2, s7.2.2))) else (.nx ((m_law_next_letter s7.1 signs_3 t_9.1).2, (k_put s7.2.1 letter_11).2, (s7.2.2 ++ [((t_9.1 ++ letter_11), more_13)])))))))) (fun n s => s.2.1.length = (keeper_).length + n ∧ s.2.2 = momsOf s.2.1 ∧ LowT s.2.1 ∧ s.2.1.take (keeper_).length = keeper_) (i_rng1 (a_cons (x_var (R := isa (many_ : Int))) a_nil) (by walk_at "vc") (by walk_at "vc")) (g_name (α := Int) (i := 5)) (⟨⟨.inr rfl, .inr rfl, .inr rfl, .inr rfl, .inr rfl, .inl rfl, .inl rfl, .inl rfl, .inl rfl, .inl rfl, trivial⟩, .cons₂ _ (.cons₂ _ (.cons₂ _ (.slnil)))⟩) (⟨rfl, hp1, hp2, List.take_length⟩) (fun n x s s' hx hI h => Ctl.nx_ok (fun s => s.2.1.length = (keeper_).length + (n + 1) ∧ s.2.2 = momsOf s.2.1 ∧ LowT s.2.1 ∧ s.2.1.take (keeper_).length = keeper_) h (by
      obtain ⟨p, k, mo⟩ := s
      obtain ⟨i1, i2, i3, i4⟩ := hI
      have i2 : mo = momsOf k := i2
      have i1 : k.length = (keeper_).length + n := i1
      subst i2
      refine Ctl.ok_let fun t ht => Ctl.ok_let fun l hl => Ctl.ok_let fun more hm => Ctl.ok_if (fun hc => ?_) fun _ => Ctl.ok_nx ?_
      · exfalso
        exact grown_no (k := k) ⟨by rw [hsigns_3]; exact (signs_len _).1, by rw [hsigns_3]; exact signs_L _, i3⟩ ht hl hm hc
      · exact grown_step (k := k) ⟨by rw [hsigns_3]; exact (signs_len _).1, by rw [hsigns_3]; exact signs_L _, i3⟩ i1 i4 ht hl hm)) (fun n6 x4 s7 hx5 hI8 => have hfx4 := irange_at hx5; have hInv := hI8; have i1 := hInv.1; have i2 := hInv.2.1; have i3 := hInv.2.2.1; have i2l := congrArg List.length i2; have i5 := moms_len s7.2.1; b_asgTV (x_ixO (α := (Tx × (List Int))) (xs := s7.2.2) (p := p_moments) 2 (x_var (R := isr p_moments)) (x_neg (x_int)) (by walk_at "vc")) (g_tup2 (K := K) (α := Tx) (β := (List Int)) (i := 6) (j := 7)) (fun t_9 ht_9 => have ht : t_9 = (s7.2.1, cuts s7.2.1) := ht_9.trans (by rw [hInv.2.1]; exact moms_last _); have htl : List.length t_9.1 = List.length s7.2.1 := (by rw [ht]); have hts : List.length t_9.2 = List.length (cuts s7.2.1) := (by rw [ht]); have htc := cuts_len s7.2.1; have hc10 := next_L s7.1 signs_3 t_9.1 (by exact ⟨by rw [hsigns_3]; exact (signs_len _).1, by rw [hsigns_3]; exact signs_L _, by rw [ht]; exact i3⟩); b_asgV (i := 8) (x_call1 (fs := (fs__law_next_letter K)) (r := (m_law_next_letter s7.1 signs_3 t_9.1)) (c' := lstC p_state (potL ((m_law_next_letter s7.1 signs_3 t_9.1).2 : Pot))) 0 (p_state, s7.1, signs_3, t_9.1) (show (signs_3).length ≤ 4 ∧ 0 < (signs_3).length ∧ (t_9.1).length ≤ 60 from (by walk_at "vc")) (a_cons (x_var (R := isr p_state)) (a_cons (x_var (R := isa (signs_3 : (List Tx)))) (a_cons (x_var (R := isa (t_9.1 : Tx))) (a_nil))))) (fun letter_11 hletter_11 => have hlletter_11 := congrArg List.length hletter_11; b_drop (Rv := isa ((k_put s7.2.1 letter_11).1 : Unit)) (x_methK (fs := fp_Keeper_put K) (r := (k_put s7.2.1 letter_11)) (k := k_keeper) (s := (kst s7.2.1)) (s' := (kst (k_put s7.2.1 letter_11).2)) 1 (k_keeper, s7.2.1, letter_11) (show (s7.2.1).length < 60 ∧ isL (letter_11) from (by exact ⟨by omega, by rw [hletter_11]; exact And.left ‹isL _ ∧ _›⟩)) (x_var (R := isr k_keeper.p)) (a_cons (x_var (R := isa (letter_11 : Tx))) (a_nil))) (have hc12 := cuts_len (k_put s7.2.1 letter_11).2; b_asgV (i := 9) (x_methR (fs := fp_Keeper_marks K) (r := (cuts (k_put s7.2.1 letter_11).2)) (k := k_keeper) (s := (kst (k_put s7.2.1 letter_11).2)) 1 (k_keeper, (k_put s7.2.1 letter_11).2) trivial (x_var (R := isr k_keeper.p)) (a_nil) (hV := fun _ _ _ h => nuS_isa h)) (fun more_13 hmore_13 => have hlmore_13 := congrArg List.length hmore_13; b_guard (CE := fun (e : Empty) => e.elim) (t_and (t_t (x_ne (α := (List Int)) (x_var (R := isa (more_13 : (List Int)))) (x_var (R := isa (t_9.2 : (List Int)))))) (fun hb14 => t_t (x_ne (α := (List Int)) (x_var (R := isa (more_13 : (List Int)))) (x_cat (α := Int) (x_var (R := isa (t_9.2 : (List Int)))) (XN.frz (n_lst (α := Int) (xs := ([((List.length t_9.1 : Nat) : Int)] : List Int)) (a_cons (x_lenS (x_var (R := isa (t_9.1 : Tx))) (by walk_at "vc")) (a_nil)) (by simp only [List.length_cons, List.length_nil]; omega))) (by walk_at "vc"))))) (fun h16 => b_retS (r := (false, ((m_law_next_letter s7.1 signs_3 t_9.1).2, (k_put s7.2.1 letter_11).2, s7.2.2))) (x_bl) (hO := .cons₂ _ (.cons₂ _ (.cons₂ _ (.slnil))))) (fun h16 => b_app (α := (Tx × (List Int))) (xs := s7.2.2) (p := p_moments) 2 (x_var (R := isr p_moments)) (x_tup2 (x := ((t_9.1 ++ letter_11) : Tx)) (y := (more_13 : (List Int))) (a_cons (x_addS (x_var (R := isa (t_9.1 : Tx))) (x_var (R := isa (letter_11 : Tx))) (by walk_at "vc")) (a_cons (x_var (R := isa (more_13 : (List Int)))) (a_nil)))) (by walk_at "vc") (b_nil (⟨⟨.inr rfl, .inr rfl, .inr rfl, .inr rfl, .inr rfl, .inl rfl, .inl rfl, .inl rfl, .inl rfl, .inl rfl, trivial⟩, .cons₂ _ (.cons₂ _ (.cons₂ _ (.slnil)))⟩)))))))) (fun s7 hI8 => have hEnd := hI8; b_retS (r := (true, (s7.1, s7.2.1, s7.2.2))) (x_bl) (hO := .cons₂ _ (.cons₂ _ (.cons₂ _ (.slnil))))))

def fp__law_grown (K : Fg) : Fs := Fs.mk (Addr × Kp × Addr × Pot × Tx × Tx × Int) (Bool × Pot × Tx × Tx) Empty (fun a => a.2.2.2.2.2.1 = a.2.2.2.2.1 ∧ LowT a.2.2.2.2.1 ∧ 0 ≤ a.2.2.2.2.2.2 ∧ (a.2.2.2.2.1.length : Int) + a.2.2.2.2.2.2 ≤ 60) (fun a => [isr a.1, isr a.2.1.p, isr a.2.2.1, isa (a.2.2.2.2.2.2 : Int)]) (fun a => [lstC a.1 (potL a.2.2.2.1), kpC (He.ga K "Keeper") a.2.1 (kst a.2.2.2.2.1), lstC a.2.2.1 (momsOf a.2.2.2.2.2.1)]) (fun a => io Bool (Pot × Tx × Tx) (fun z => [lstC a.1 (potL z.1), kpC (He.ga K "Keeper") a.2.1 (kst z.2.1), lstC a.2.2.1 (momsOf z.2.2)])) (fun a => .rt (growP a.2.2.2.1 a.2.2.2.2.1 a.2.2.2.2.2.1 a.2.2.2.2.2.2))
theorem op__law_grown (M : Md fa fn K mg base) : Cal P w K mg base CX0 3 "_law_grown" (fp__law_grown K).sp := (ok__law_grown M).imp (fun vs H Q E => Fs.via (fP := fp__law_grown K) (f2 := fs__law_grown K) (fun a => (a.1, a.2.1, a.2.2.1, a.2.2.2.1, a.2.2.2.2.1, momsOf a.2.2.2.2.2.1, a.2.2.2.2.2.2)) (fun a => m_law_grown a.2.2.2.1 a.2.2.2.2.1 (momsOf a.2.2.2.2.2.1) a.2.2.2.2.2.2) (fun a => growP a.2.2.2.1 a.2.2.2.2.1 a.2.2.2.2.2.1 a.2.2.2.2.2.2)
  (fun a ha => ⟨⟨congrArg momsOf ha.1, ha.2.1, ha.2.2.1, ha.2.2.2⟩, rfl, rfl⟩) (fun _ => rfl) (fun _ => rfl)
  (fun a ha => by
    obtain ⟨p1, kk, p3, s, k, mo, n⟩ := a
    obtain ⟨h1, h2, h3, h4⟩ := ha
    have h1 : mo = k := h1
    subst h1
    have g := grown_k (s := s) (n := n) h2 h3
    show [lstC p1 (potL (m_law_grown s mo (momsOf mo) n).2.1), kpC _ kk (kst (m_law_grown s mo (momsOf mo) n).2.2.1), lstC p3 (m_law_grown s mo (momsOf mo) n).2.2.2] = _
    rw [g.2.1]; rfl)
  (fun a B0 B v ha q => by
    obtain ⟨p1, kk, p3, s, k, mo, n⟩ := a
    obtain ⟨h1, h2, h3, h4⟩ := ha
    have h1 : mo = k := h1
    subst h1
    have g := grown_k (s := s) (n := n) h2 h3
    have q' : (isa (m_law_grown s mo (momsOf mo) n).1).P B v := q
    rw [g.1] at q'
    exact q') vs H Q E)

def fs__law_back_to (K : Fg) : Fs := Fs.mk (Kp × Addr × Tx × (List (Tx × (List Int))) × Int) (Bool × Tx × (List (Tx × (List Int)))) Empty (fun (a : Kp × Addr × Tx × (List (Tx × (List Int))) × Int) => (a.2.2.2.1) = momsOf (a.2.2.1) ∧ (a.2.2.1).length ≤ 60 ∧ 0 ≤ (a.2.2.2.2)) (fun (a : Kp × Addr × Tx × (List (Tx × (List Int))) × Int) => [isr a.1.p, isr a.2.1, isa (a.2.2.2.2 : Int)]) (fun a => [kpC (He.ga K "Keeper") a.1 (kst a.2.2.1), lstC a.2.1 a.2.2.2.1]) (fun a => io Bool (Tx × (List (Tx × (List Int)))) (fun z => [kpC (He.ga K "Keeper") a.1 (kst z.1), lstC a.2.1 z.2])) (fun a => .rt (m_law_back_to a.2.2.1 a.2.2.2.1 a.2.2.2.2))
abbrev N__law_back_to : List Str := ["keeper", "moments", "many", "row", "marks"]
theorem sc__law_back_to : FnScope N__law_back_to ["keeper", "moments", "many"] (defScope s__law_back_to) := ⟨rfl, rfl, rfl, by decide +kernel, rfl, by decide +kernel, by decide +kernel⟩
set_option maxHeartbeats 4000000 in
theorem ok__law_back_to (M : Md fa fn K mg base) : Cal P w K mg base CX0 3 "_law_back_to" (fs__law_back_to K).sp := by
  obtain ⟨fd, F⟩ := M.says.def_ 24 (d := d__law_back_to) rfl
  have sc := sc__law_back_to
  refine cal_mk (P := P) (w := w) (fs__law_back_to K) (N := N__law_back_to) F sc (M.gl 46) (FunD.bindsN F fun _ _ _ _ _ _ us hl => match us, hl with | [_, _, _], _ => rfl) (fun _ => rfl) (fun a => m_law_back_to_c a.2.2.1 a.2.2.2.1 a.2.2.2.2) (fun _ e => e.elim) (fun _ e => e.elim) (fun cdv A outer s H E hr => ⟨_, pss_cons (ps_while PassesOwn.never (pt_cmpR op_gt (k_cb (c_lenQ K rfl) (M.fr 4) bt_len (pa_cons (pv 1) pa_nil)) (pe_op op_add (pv 2) (pe_int)) (nomark _)) (pss_cons (ps_asg (pe_bm0 PySem.F.plainAttrs_list PySem.F.slot_list_pop PySem.F.type_list_pop mt_pop (pv 1)) (k_gtup K rfl rfl (pgs_cons (pg_name (i := 3) sc.nd rfl (by first | exact Or.inl rfl | exact Or.inr rfl)) (pgs_cons (pg_name (i := 4) sc.nd rfl (by first | exact Or.inl rfl | exact Or.inr rfl)) pgs_nil)))) (pss_cons (ps_if (PW.pt (pw_or (pt_cmpR (op_neT hr) (pe_methC0 (op_Keeper_take M) (M.cls 21) hr (by decide) pass0 (pv 0)) (k_ixS (pv 3) (pe_un un_neg (pe_int))) (nomark _)) (pw_or1 (pt_not (pt_val (pe_callC (ok__law_stands_so M) hr (by decide) pass0 (pa_cons (pv 0) (pa_cons (k_ixT K rfl (k_ixL K rfl (pv 1) (pe_un un_neg (pe_int))) pe_int) (pa_cons (k_ixT K rfl (k_ixL K rfl (pv 1) (pe_un un_neg (pe_int))) pe_int) (pa_nil)))))))))) (pss_cons (ps_ret (pe_bl)) pss_nil) pss_nil) (pss_nil)))) (pss_cons (ps_ret (pe_bl)) pss_nil), ?_⟩) (fun a _ => out_eq _ _) (fun _ e => e.elim)
  intro a ha
  obtain ⟨k_keeper, p_moments, keeper_, moments_, many_⟩ := a
  obtain ⟨hp1, hp2, hp3⟩ : moments_ = momsOf keeper_ ∧ keeper_.length ≤ 60 ∧ 0 ≤ many_ := ha
  unfold m_law_back_to_c
  show XB _ ⟨[some (isr k_keeper.p), some (isr p_moments), some (isa (many_ : Int)), none, none], [kpC (He.ga K "Keeper") k_keeper (kst (keeper_ : Tx)), lstC p_moments (moments_ : List (Tx × (List Int)))]⟩ _ _ ((fun (e : Empty) => e.elim))
  exact b_whileS (fun (s1 : Tx × List (Tx × (List Int))) => ⟨[some (isr k_keeper.p), some (isr p_moments), some (isa (many_ : Int)), none, none], [kpC (He.ga K "Keeper") k_keeper (kst (s1.1 : Tx)), lstC p_moments (s1.2 : List (Tx × (List Int)))]⟩) (keeper_, moments_) (fun (s1 : Tx × List (Tx × (List Int))) => (decide ((many_ + (1 : Int)) < ((List.length s1.2 : Nat) : Int)))) (fun (s1 : Tx × List (Tx × (List Int))) => (letC (ixI s1.2 (-1 : Int)) fun (t_4 : (Tx × (List Int))) => (if (!(decide ((k_take s1.1).1 = (ixS t_4.1 (-(1 : Int)))))) = true then (.rt (false, ((k_take s1.1).2, (List.dropLast s1.2)))) else (if (!(m_law_stands_so (k_take s1.1).2 ((ixI (List.dropLast s1.2) (-(1 : Int)))).1 ((ixI (List.dropLast s1.2) (-(1 : Int)))).2)) = true then (.rt (false, ((k_take s1.1).2, (List.dropLast s1.2)))) else (.nx ((k_take s1.1).2, (List.dropLast s1.2))))))) (fun s => s.2 = momsOf s.1 ∧ s.1.length ≤ (keeper_).length ∧ s.1 = (keeper_).take s.1.length) (fun s => s.1.length) (61) (⟨⟨.inr rfl, .inr rfl, .inr rfl, .inl rfl, .inl rfl, trivial⟩, .cons₂ _ (.cons₂ _ (.slnil))⟩) (⟨hp1, Nat.le_refl _, List.take_length.symm⟩) ((by show (keeper_).length ≤ 61; omega)) (fun s s' hI hc h => back_step hp3 hI hc h) (fun s1 hI2 => have hInv := hI2; have i1 := congrArg List.length hInv.1; have i2 := moms_len s1.1; t_t (x_gt (x_lenO (α := (Tx × (List Int))) (xs := s1.2) (p := p_moments) 1 (x_var (R := isr p_moments))) (x_add (x_var (R := isa (many_ : Int))) (x_int)))) (fun s1 hI2 h3 => have hInv := hI2; have hCond := h3; have hb := back_pre hp3 hInv hCond; have i2 := hInv.2.1; b_asgTV (x_pop (α := (Tx × (List Int))) (xs := s1.2) (p := p_moments) 1 (x_var (R := isr p_moments)) (by exact hb.2.2.2.1)) (g_tup2 (K := K) (α := Tx) (β := (List Int)) (i := 3) (j := 4)) (fun t_4 ht_4 => have ht : t_4 = (s1.1, cuts s1.1) := ht_4.trans hb.1; have htl : List.length t_4.1 = List.length s1.1 := (by rw [ht]); b_gOr (CE := fun (e : Empty) => e.elim) (t_t (x_ne (α := Tx) (x_methK (fs := fp_Keeper_take K) (r := (k_take s1.1)) (k := k_keeper) (s := (kst s1.1)) (s' := (kst (k_take s1.1).2)) 0 (k_keeper, s1.1) (show (s1.1).length ≤ 60 ∧ 0 < (s1.1).length from (by exact ⟨by omega, hb.2.1⟩)) (x_var (R := isr k_keeper.p)) (a_nil)) (x_ixS (x_var (R := isa (t_4.1 : Tx))) (x_neg (x_int)) (by have := hb.2.1; unfold Ib; omega) (by walk_at "vc")))) (fun h5 => b_retS (r := (false, ((k_take s1.1).2, (List.dropLast s1.2)))) (x_bl) (hO := .cons₂ _ (.cons₂ _ (.slnil)))) (fun h5 => b_guard (CE := fun (e : Empty) => e.elim) (t_not (t_v (x_callR (fs := (fs__law_stands_so K)) (r := (m_law_stands_so (k_take s1.1).2 ((ixI (List.dropLast s1.2) (-(1 : Int)))).1 ((ixI (List.dropLast s1.2) (-(1 : Int)))).2)) (c := kpC (He.ga K "Keeper") k_keeper (kst ((k_take s1.1).2 : Tx))) 0 (k_keeper, (k_take s1.1).2, ((ixI (List.dropLast s1.2) (-(1 : Int)))).1, ((ixI (List.dropLast s1.2) (-(1 : Int)))).2) (show (((ixI (List.dropLast s1.2) (-(1 : Int)))).1).length ≤ 60 ∧ (((ixI (List.dropLast s1.2) (-(1 : Int)))).2).length ≤ 60 from (by exact hb.2.2.2.2 (by omega))) (a_cons (x_var (R := isr k_keeper.p)) (a_cons (x_tupF (x := (ixI (List.dropLast s1.2) (-(1 : Int)))) (x_ixO (α := (Tx × (List Int))) (xs := (List.dropLast s1.2)) (p := p_moments) 1 (x_var (R := isr p_moments)) (x_neg (x_int)) (by exact hb.2.2.1))) (a_cons (x_tupS (x := (ixI (List.dropLast s1.2) (-(1 : Int)))) (x_ixO (α := (Tx × (List Int))) (xs := (List.dropLast s1.2)) (p := p_moments) 1 (x_var (R := isr p_moments)) (x_neg (x_int)) (by exact hb.2.2.1))) (a_nil))))))) (fun h6 => b_retS (r := (false, ((k_take s1.1).2, (List.dropLast s1.2)))) (x_bl) (hO := .cons₂ _ (.cons₂ _ (.slnil)))) (fun h6 => b_nil (⟨⟨.inr rfl, .inr rfl, .inr rfl, .inl rfl, .inl rfl, trivial⟩, .cons₂ _ (.cons₂ _ (.slnil))⟩))))) (fun s1 hI2 h3 => have hEnd := hI2; have hDone := h3; b_retS (r := (true, (s1.1, s1.2))) (x_bl) (hO := .cons₂ _ (.cons₂ _ (.slnil))))

def fp__law_back_to (K : Fg) : Fs := Fs.mk (Kp × Addr × Tx × Tx × Int) (Bool × Tx × Tx) Empty (fun a => a.2.2.2.1 = a.2.2.1 ∧ a.2.2.1.length ≤ 60 ∧ 0 ≤ a.2.2.2.2 ∧ a.2.2.2.2 ≤ a.2.2.1.length) (fun a => [isr a.1.p, isr a.2.1, isa (a.2.2.2.2 : Int)]) (fun a => [kpC (He.ga K "Keeper") a.1 (kst a.2.2.1), lstC a.2.1 (momsOf a.2.2.2.1)]) (fun a => io Bool (Tx × Tx) (fun z => [kpC (He.ga K "Keeper") a.1 (kst z.1), lstC a.2.1 (momsOf z.2)])) (fun a => .rt (backP a.2.2.1 a.2.2.2.1 a.2.2.2.2))
theorem op__law_back_to (M : Md fa fn K mg base) : Cal P w K mg base CX0 3 "_law_back_to" (fp__law_back_to K).sp := (ok__law_back_to M).imp (fun vs H Q E => Fs.via (fP := fp__law_back_to K) (f2 := fs__law_back_to K) (fun a => (a.1, a.2.1, a.2.2.1, momsOf a.2.2.2.1, a.2.2.2.2)) (fun a => (true, a.2.2.1.take a.2.2.2.2.toNat, momsOf (a.2.2.1.take a.2.2.2.2.toNat))) (fun a => backP a.2.2.1 a.2.2.2.1 a.2.2.2.2)
  (fun a ha => ⟨⟨congrArg momsOf ha.1, ha.2.1, ha.2.2.1⟩, by
    obtain ⟨p1, p2, k, mo, n⟩ := a
    obtain ⟨h1, h2, h3, h4⟩ := ha
    have h1 : mo = k := h1
    subst h1
    exact congrArg Ctl.rt (back_k h3 h4 h2), rfl⟩) (fun _ => rfl) (fun _ => rfl) (fun a ha => rfl) (fun a B0 B v ha q => q) vs H Q E)

def fs__law_words_met (K : Fg) : Fs := Fs.mk (Kp × Tx × Tx × (List Int)) Bool Empty (fun (a : Kp × Tx × Tx × (List Int)) => (a.2.1).length ≤ 60 ∧ (a.2.2.1).length ≤ 60 ∧ (a.2.2.2).length ≤ 60) (fun (a : Kp × Tx × Tx × (List Int)) => [isr a.1.p, isa (a.2.2.1 : Tx), isa (a.2.2.2 : (List Int))]) (fun a => [kpC (He.ga K "Keeper") a.1 (kst a.2.1)]) (fun a => ro Bool [kpC (He.ga K "Keeper") a.1 (kst a.2.1)]) (fun a => .rt (m_law_words_met a.2.1 a.2.2.1 a.2.2.2))
abbrev N__law_words_met : List Str := ["keeper", "row", "marks", "begin", "many", "word", "place", "mark"]
theorem sc__law_words_met : FnScope N__law_words_met ["keeper", "row", "marks"] (defScope s__law_words_met) := ⟨rfl, rfl, rfl, by decide +kernel, rfl, by decide +kernel, by decide +kernel⟩
set_option maxHeartbeats 4000000 in
theorem ok__law_words_met (M : Md fa fn K mg base) : Cal P w K mg base CX0 4 "_law_words_met" (fs__law_words_met K).sp := by
  obtain ⟨fd, F⟩ := M.says.def_ 25 (d := d__law_words_met) rfl
  have sc := sc__law_words_met
  refine cal_mk (P := P) (w := w) (fs__law_words_met K) (N := N__law_words_met) F sc (M.gl 48) (FunD.bindsN F fun _ _ _ _ _ _ us hl => match us, hl with | [_, _, _], _ => rfl) (fun _ => rfl) (fun a => m_law_words_met_c a.2.1 a.2.2.1 a.2.2.2) (fun _ e => e.elim) (fun _ e => e.elim) (fun cdv A outer s H E hr => ⟨_, pss_cons (ps_for PassesOwn.never rfl (pi_range1 rfl (M.fr 7) (pa_cons (k_cb c_lenZ (M.fr 4) bt_len (pa_cons (pv 1) pa_nil)) pa_nil)) (pg_name (i := 3) sc.nd rfl (by first | exact Or.inl rfl | exact Or.inr rfl)) (pss_cons (ps_for PassesOwn.never rfl (k_ilist K rfl (pe_lst (pa_cons (pe_int) (pa_cons (pe_int) (pa_cons (pe_int) (pa_cons (pe_op op_sub (k_cb c_lenZ (M.fr 4) bt_len (pa_cons (pv 1) pa_nil)) (pv 3)) (pa_cons (pe_op op_fdiv (pe_op op_sub (k_cb c_lenZ (M.fr 4) bt_len (pa_cons (pv 1) pa_nil)) (pv 3)) (pe_int)) (pa_nil)))))))) (pg_name (i := 4) sc.nd rfl (by first | exact Or.inl rfl | exact Or.inr rfl)) (pss_cons (ps_set (i := 5) sc.nd rfl (by first | exact Or.inl rfl | exact Or.inr rfl) (k_slS (pv 1) (po_some (pv 3)) (po_some (pe_op op_add (pv 3) (k_cb (c_max2 rfl) (M.fr 47) bt_max (pa_cons (pe_int) (pa_cons (pv 4) pa_nil))))))) (pss_cons (ps_set (i := 6) sc.nd rfl (by first | exact Or.inl rfl | exact Or.inr rfl) (pe_methC (op_Keeper_over M) (M.cls 21) hr (by decide) pass0 (pv 0) (pa_cons (pv 5) (pa_nil)))) (pss_cons (ps_if (PW.pt (pw_or (pt_cmpR op_isN (pv 6) pe_non (nomark _)) (pw_or1 (pt_cmpR (op_neT hr) (k_slS (pv 1) (po_some (pv 6)) (po_some (pe_op op_add (pv 6) (k_cb c_lenZ (M.fr 4) bt_len (pa_cons (pv 5) pa_nil))))) (pv 5) (nomark _))))) (pss_cons (ps_ret (pe_bl)) pss_nil) pss_nil) (pss_cons (ps_if (pt_not (pt_val (k_cb (c_any K rfl rfl) (M.fr 14) bt_any (pa_cons (pe_lc (own := [("mark", 7)]) (g := gName 7) (tt := tYes) rfl sc.nd (k_ilist K rfl (pv 2)) (blkOk_by (own := [("mark", 7)]) (N := N__law_words_met) (sc := defScope s__law_words_met) (by decide +kernel)) (fun _ _ _ _ _ => pg_name (i := 7) sc.nd rfl (by first | exact Or.inl rfl | exact Or.inr rfl)) (fun _ _ _ _ _ => pts_nil) (fun _ _ _ _ _ => pe_chain op_le op_lt (pv 6) (pv 7) (pe_op op_add (pv 6) (k_cb c_lenZ (M.fr 4) bt_len (pa_cons (pv 5) pa_nil))))) pa_nil)))) (pss_cons (ps_ret (pe_bl)) pss_nil) pss_nil) (pss_nil)))))) (pss_nil))) (pss_cons (ps_ret (pe_bl)) pss_nil), ?_⟩) (fun a _ => out_eq _ _) (fun _ e => e.elim)
  intro a ha
  obtain ⟨k_keeper, keeper_, row_, marks_⟩ := a
  obtain ⟨hp1, hp2, hp3⟩ : keeper_.length ≤ 60 ∧ row_.length ≤ 60 ∧ marks_.length ≤ 60 := ha
  unfold m_law_words_met_c
  show XB _ ⟨[some (isr k_keeper.p), some (isa (row_ : Tx)), some (isa (marks_ : (List Int))), none, none, none, none, none], [kpC (He.ga K "Keeper") k_keeper (kst (keeper_ : Tx))]⟩ _ _ ((fun (e : Empty) => e.elim))
  exact b_forS (α := Int) (xs := (irange 0 ((List.length row_ : Nat) : Int))) (fun (s4 : Unit) => ⟨[some (isr k_keeper.p), some (isa (row_ : Tx)), some (isa (marks_ : (List Int))), none, none, none, none, none], [kpC (He.ga K "Keeper") k_keeper (kst (keeper_ : Tx))]⟩) () (fun (s4 : Unit) (x1 : Int) => (Ctl.bind (forC ([(1 : Int), (2 : Int), (3 : Int), (((List.length row_ : Nat) : Int) - x1), ((((List.length row_ : Nat) : Int) - x1) / (2 : Int))] : List Int) () (fun (s9 : Unit) (x6 : Int) => (letC (cut row_ (some x1) (some (x1 + (max (1 : Int) x6)))) fun (word_12 : Tx) => (if ((k_over keeper_ word_12)).isNone = true then (.rt false) else (if (!(decide ((cut row_ (some (Option.getD (k_over keeper_ word_12) 0)) (some ((Option.getD (k_over keeper_ word_12) 0) + ((List.length word_12 : Nat) : Int)))) = word_12))) = true then (.rt false) else (if (!(List.any (List.map (fun x16 => (decide ((Option.getD (k_over keeper_ word_12) 0) ≤ x16) && decide (x16 < ((Option.getD (k_over keeper_ word_12) 0) + ((List.length word_12 : Nat) : Int))))) marks_) id)) = true then (.rt false) else (.nx ()))))))) fun (s9 : Unit) => (.nx ()))) (fun _ _ => True) (i_rng1 (a_cons (x_lenS (x_var (R := isa (row_ : Tx))) (by walk_at "vc")) a_nil) (by walk_at "vc") (by walk_at "vc")) (g_name (α := Int) (i := 3)) (⟨⟨.inr rfl, .inr rfl, .inr rfl, .inl rfl, .inl rfl, .inl rfl, .inl rfl, .inl rfl, trivial⟩, .cons₂ _ (.slnil)⟩) (trivial) (fun _ _ _ _ _ _ _ => trivial) (fun n3 x1 s4 hx2 hI5 => have hfx1 := irange_at hx2; b_forS (α := Int) (xs := ([(1 : Int), (2 : Int), (3 : Int), (((List.length row_ : Nat) : Int) - x1), ((((List.length row_ : Nat) : Int) - x1) / (2 : Int))] : List Int)) (fun (s9 : Unit) => ⟨[some (isr k_keeper.p), some (isa (row_ : Tx)), some (isa (marks_ : (List Int))), some (isa (x1 : Int)), none, none, none, none], [kpC (He.ga K "Keeper") k_keeper (kst (keeper_ : Tx))]⟩) () (fun (s9 : Unit) (x6 : Int) => (letC (cut row_ (some x1) (some (x1 + (max (1 : Int) x6)))) fun (word_12 : Tx) => (if ((k_over keeper_ word_12)).isNone = true then (.rt false) else (if (!(decide ((cut row_ (some (Option.getD (k_over keeper_ word_12) 0)) (some ((Option.getD (k_over keeper_ word_12) 0) + ((List.length word_12 : Nat) : Int)))) = word_12))) = true then (.rt false) else (if (!(List.any (List.map (fun x16 => (decide ((Option.getD (k_over keeper_ word_12) 0) ≤ x16) && decide (x16 < ((Option.getD (k_over keeper_ word_12) 0) + ((List.length word_12 : Nat) : Int))))) marks_) id)) = true then (.rt false) else (.nx ())))))) (fun _ _ => True) (i_list (α := Int) (XN.frz (n_lst (α := Int) (xs := ([(1 : Int), (2 : Int), (3 : Int), (((List.length row_ : Nat) : Int) - x1), ((((List.length row_ : Nat) : Int) - x1) / (2 : Int))] : List Int)) (a_cons (x_int) (a_cons (x_int) (a_cons (x_int) (a_cons (x_sub (x_lenS (x_var (R := isa (row_ : Tx))) (by walk_at "vc")) (x_var (R := isa (x1 : Int)))) (a_cons (x_fdiv (x_sub (x_lenS (x_var (R := isa (row_ : Tx))) (by walk_at "vc")) (x_var (R := isa (x1 : Int)))) (x_int) (by walk_at "vc")) (a_nil)))))) (by simp only [List.length_cons, List.length_nil]; omega)))) (g_name (α := Int) (i := 4)) (⟨⟨.inr rfl, .inr rfl, .inr rfl, .inr rfl, .inl rfl, .inl rfl, .inl rfl, .inl rfl, trivial⟩, .cons₂ _ (.slnil)⟩) (trivial) (fun _ _ _ _ _ _ _ => trivial) (fun n8 x6 s9 hx7 hI10 => have hfx6 := mem_at hx7; have hc11 := cut_len row_ (some x1) (some (x1 + (max (1 : Int) x6))); b_asgV (i := 5) (x_slS (x_var (R := isa (row_ : Tx))) (o_some (x_var (R := isa (x1 : Int)))) (o_some (x_add (x_var (R := isa (x1 : Int))) (x_max2 (x_int) (x_var (R := isa (x6 : Int)))))) (by walk_at "vc")) (fun word_12 hword_12 => have hfword_12 := hlen_cut hword_12; have hgword_12 := cut_fact hword_12; have hlword_12 := congrArg List.length hword_12; b_asg (i := 6) (x_methR (fs := fp_Keeper_over K) (r := (k_over keeper_ word_12)) (k := k_keeper) (s := (kst keeper_)) 0 (k_keeper, keeper_, word_12) (show (keeper_).length ≤ 60 ∧ (word_12).length ≤ 1000 from (by walk_at "vc")) (x_var (R := isr k_keeper.p)) (a_cons (x_var (R := isa (word_12 : Tx))) (a_nil))) (b_gOr (CE := fun (e : Empty) => e.elim) (t_t (x_isN (x_var (R := isa ((k_over keeper_ word_12) : (Option Int)))))) (fun h13 => b_retS (r := false) (x_bl) (hO := .cons₂ _ (.slnil))) (fun h13 => have hc14 := cut_len row_ (some (Option.getD (k_over keeper_ word_12) 0)) (some ((Option.getD (k_over keeper_ word_12) 0) + ((List.length word_12 : Nat) : Int))); b_guard (CE := fun (e : Empty) => e.elim) (t_t (x_ne (α := Tx) (x_slS (x_var (R := isa (row_ : Tx))) (o_some (x_unO (d := 0) (x_var (R := isa ((k_over keeper_ word_12) : (Option Int)))) h13)) (o_some (x_add (x_unO (d := 0) (x_var (R := isa ((k_over keeper_ word_12) : (Option Int)))) h13) (x_lenS (x_var (R := isa (word_12 : Tx))) (by walk_at "vc")))) (by walk_at "vc")) (x_var (R := isa (word_12 : Tx))))) (fun h15 => b_retS (r := false) (x_bl) (hO := .cons₂ _ (.slnil))) (fun h15 => b_guard (CE := fun (e : Empty) => e.elim) (t_not (t_v (x_any (XN.frz (n_lcU (α := Int) (β := Bool) (is := [7]) (up := _) (fun x16 => (decide ((Option.getD (k_over keeper_ word_12) 0) ≤ x16) && decide (x16 < ((Option.getD (k_over keeper_ word_12) 0) + ((List.length word_12 : Nat) : Int))))) (i_list (α := Int) (x_var (R := isa (marks_ : (List Int))))) (g_name (α := Int) (i := 7)) (by decide) (fun n18 x16 hx17 => have hfx16 := mem_at hx17; x_chain (g := fun i j => decide (i ≤ j)) (g' := fun i j => decide (i < j)) (x_unO (d := 0) (x_var (R := isa ((k_over keeper_ word_12) : (Option Int)))) h13) (x_var (R := isa (x16 : Int))) (x_add (x_unO (d := 0) (x_var (R := isa ((k_over keeper_ word_12) : (Option Int)))) h13) (x_lenS (x_var (R := isa (word_12 : Tx))) (by walk_at "vc")))) (by walk_at "vc")))))) (fun h19 => b_retS (r := false) (x_bl) (hO := .cons₂ _ (.slnil))) (fun h19 => b_nil (⟨⟨.inr rfl, .inr rfl, .inr rfl, .inr rfl, .inl rfl, .inl rfl, .inl rfl, .inl rfl, trivial⟩, .cons₂ _ (.slnil)⟩))))))) (fun s9 hI10 => b_nil (⟨⟨.inr rfl, .inr rfl, .inr rfl, .inl rfl, .inl rfl, .inl rfl, .inl rfl, .inl rfl, trivial⟩, .cons₂ _ (.slnil)⟩))) (fun s4 hI5 => b_retS (r := true) (x_bl) (hO := .cons₂ _ (.slnil)))
def fs_law (K : Fg) : Fs := Fs.mk ((List Int)) Bool Empty (fun (a : (List Int)) => True) (fun (a : (List Int)) => [isq K a]) (fun a => []) (fun a => pu Bool) (fun a => .rt (m_law a))
abbrev N_law : List Str := ["script", "k", "state", "keeper", "moments", "row", "marks", "fork", "first_ones", "other", "letter"]
theorem sc_law : FnScope N_law ["script"] (defScope s_law) := ⟨rfl, rfl, rfl, by decide +kernel, rfl, by decide +kernel, by decide +kernel⟩
set_option maxHeartbeats 4000000 in
theorem ok_law {fd : FuncData} (M : Md fa fn K mg base) (F : FunD K d_law.name d_law.qual d_law.params d_law.body d_law.scope (d_law.dvs K) (d_law.kws K) (He.fAd K d_law.at_) fd) : FnOk P w K mg base CX0 5 (He.fAd K d_law.at_) fd ["script"] (fs_law K).sp := by
  have sc := sc_law
  refine fn_mk (P := P) (w := w) (fs_law K) (N := N_law) F sc (fun _ => rfl) (fun a => m_law_c a) (fun _ e => e.elim) (fun _ e => e.elim) (fun cdv A outer s H E hr => ⟨_, pss_cons (ps_for PassesOwn.never rfl (pi_range1 rfl (M.fr 7) (pa_cons (k_cb (c_max2 rfl) (M.fr 47) bt_max (pa_cons (pe_int) (pa_cons (k_cb (c_min2 rfl) (M.fr 10) bt_min (pa_cons (pe_int) (pa_cons (k_cb (c_lenQ K rfl) (M.fr 4) bt_len (pa_cons (pv 0) pa_nil)) pa_nil))) pa_nil))) pa_nil)) (pg_name (i := 1) sc.nd rfl (by first | exact Or.inl rfl | exact Or.inr rfl)) (pss_cons (ps_set (i := 2) sc.nd rfl (by first | exact Or.inl rfl | exact Or.inr rfl) (pe_callC (op__law_pot M) hr (by decide) pass0 (pa_cons (pv 0) (pa_cons (pv 1) (pa_nil))))) (pss_cons (ps_set (i := 3) sc.nd rfl (by first | exact Or.inl rfl | exact Or.inr rfl) (pe_keeper (E := E0) rfl rfl rfl M (hr.mono (by decide)))) (pss_cons (ps_set (i := 4) sc.nd rfl (by first | exact Or.inl rfl | exact Or.inr rfl) (pe_lst (pa_cons (pe_tup (pa_cons (pe_str) (pa_cons (pe_lst pa_nil) (pa_nil)))) (pa_nil)))) (pss_cons (ps_if (PW.pt (pw_or (pt_not (pt_val (pe_callC (ok__law_stands_so M) hr (by decide) pass0 (pa_cons (pv 3) (pa_cons (pe_str) (pa_cons (pe_lst pa_nil) (pa_nil))))))) (pw_or1 (pt_not (pt_val (pe_callC (op__law_grown M) hr (by decide) pass0 (pa_cons (pv 2) (pa_cons (pv 3) (pa_cons (pv 4) (pa_cons (pe_callC (op__law_take M) hr (by decide) pass0 (pa_cons (pv 2) (pa_cons (pe_int) (pa_nil)))) (pa_nil))))))))))) (pss_cons (ps_ret (pe_bl)) pss_nil) pss_nil) (pss_cons (ps_asg (k_ixL K rfl (pv 4) (pe_un un_neg (pe_int))) (k_gtup K rfl rfl (pgs_cons (pg_name (i := 5) sc.nd rfl (by first | exact Or.inl rfl | exact Or.inr rfl)) (pgs_cons (pg_name (i := 6) sc.nd rfl (by first | exact Or.inl rfl | exact Or.inr rfl)) pgs_nil)))) (pss_cons (ps_if (PW.pt (pw_or (pt_cmpR (op_neT hr) (pv 6) (pe_callC (op_first_cutting M) hr (by decide) pass0 (pa_cons (pv 5) (pa_nil))) (nomark _)) (pw_or (pt_not (pt_val (pe_callC (ok_is_net M) hr (by decide) pass0 (pa_cons (pv 5) (pa_cons (pv 6) (pa_nil)))))) (pw_or1 (pt_not (pt_val (pe_callC (ok__law_words_met M) hr (by decide) pass0 (pa_cons (pv 3) (pa_cons (pv 5) (pa_cons (pv 6) (pa_nil))))))))))) (pss_cons (ps_ret (pe_bl)) pss_nil) pss_nil) (pss_cons (ps_set (i := 7) sc.nd rfl (by first | exact Or.inl rfl | exact Or.inr rfl) (pe_callC (op__law_take M) hr (by decide) pass0 (pa_cons (pv 2) (pa_cons (pe_op op_add (k_cb c_lenZ (M.fr 4) bt_len (pa_cons (pv 5) pa_nil)) (pe_int)) (pa_nil))))) (pss_cons (ps_set (i := 8) sc.nd rfl (by first | exact Or.inl rfl | exact Or.inr rfl) (k_ct (c_list K rfl) (M.fr 26) bt_list (pa_cons (k_slL K rfl (pv 4) (po_none) (po_some (pe_op op_add (pv 7) (pe_int)))) pa_nil))) (pss_cons (ps_if (PW.pt (pw_or (pt_not (pt_val (pe_callC (op__law_back_to M) hr (by decide) pass0 (pa_cons (pv 3) (pa_cons (pv 4) (pa_cons (pv 7) (pa_nil))))))) (pw_or1 (pt_not (pt_val (pe_callC (op__law_grown M) hr (by decide) pass0 (pa_cons (pv 2) (pa_cons (pv 3) (pa_cons (pv 4) (pa_cons (pe_callC (op__law_take M) hr (by decide) pass0 (pa_cons (pv 2) (pa_cons (pe_op op_sub (pe_int) (pv 7)) (pa_nil)))) (pa_nil))))))))))) (pss_cons (ps_ret (pe_bl)) pss_nil) pss_nil) (pss_cons (ps_asg (k_ixL K rfl (pv 4) (pe_un un_neg (pe_int))) (k_gtup K rfl rfl (pgs_cons (pg_name (i := 5) sc.nd rfl (by first | exact Or.inl rfl | exact Or.inr rfl)) (pgs_cons (pg_name (i := 6) sc.nd rfl (by first | exact Or.inl rfl | exact Or.inr rfl)) pgs_nil)))) (pss_cons (ps_if (PW.pt (pw_or (pt_cmpR (op_neT hr) (pv 6) (pe_callC (op_first_cutting M) hr (by decide) pass0 (pa_cons (pv 5) (pa_nil))) (nomark _)) (pw_or1 (pt_not (pt_val (pe_callC (ok_is_net M) hr (by decide) pass0 (pa_cons (pv 5) (pa_cons (pv 6) (pa_nil))))))))) (pss_cons (ps_ret (pe_bl)) pss_nil) pss_nil) (pss_cons (ps_set (i := 9) sc.nd rfl (by first | exact Or.inl rfl | exact Or.inr rfl) (pe_keeper (E := E0) rfl rfl rfl M (hr.mono (by decide)))) (pss_cons (ps_for PassesOwn.never rfl (pi_str (pv 5)) (pg_name (i := 10) sc.nd rfl (by first | exact Or.inl rfl | exact Or.inr rfl)) (pss_cons (ps_expr (pe_methC (op_Keeper_put M) (M.cls 21) hr (by decide) pass0 (pv 9) (pa_cons (pv 10) (pa_nil)))) (pss_nil))) (pss_cons (ps_if (PW.pt (pw_or (pt_not (pt_val (pe_callC (ok__law_stands_so M) hr (by decide) pass0 (pa_cons (pv 9) (pa_cons (pv 5) (pa_cons (pv 6) (pa_nil))))))) (pw_or (pt_not (pt_val (pe_callC (op__law_back_to M) hr (by decide) pass0 (pa_cons (pv 3) (pa_cons (pv 4) (pa_cons (pv 7) (pa_nil))))))) (pw_or1 (pt_cmpR (op_neT hr) (pv 4) (pv 8) (nomark _)))))) (pss_cons (ps_ret (pe_bl)) pss_nil) pss_nil) (pss_cons (ps_if (PW.pt (pw_or (pt_not (pt_val (pe_callC (op__law_back_to M) hr (by decide) pass0 (pa_cons (pv 3) (pa_cons (pv 4) (pa_cons (pe_int) (pa_nil))))))) (pw_or (pt_not (pt_val (pe_callC (ok__law_stands_so M) hr (by decide) pass0 (pa_cons (pv 3) (pa_cons (pe_str) (pa_cons (pe_lst pa_nil) (pa_nil))))))) (pw_or1 (pt_not (pt_val (pe_callC (ok__law_stands_so M) hr (by decide) pass0 (pa_cons (pv 9) (pa_cons (pv 5) (pa_cons (pv 6) (pa_nil))))))))))) (pss_cons (ps_ret (pe_bl)) pss_nil) pss_nil) (pss_nil))))))))))))))))) (pss_cons (ps_ret (pe_bl)) pss_nil), ?_⟩) (fun a _ => out_eq _ _) (fun _ e => e.elim)
  intro (script_ : (List Int)) ha
  skip
  unfold m_law_c
  show XB _ ⟨[some (isq K script_), none, none, none, none, none, none, none, none, none, none], []⟩ _ _ ((fun (e : Empty) => e.elim))
  exact b_forS (α := Int) (xs := (irange 0 (max (1 : Int) (min (12 : Int) ((List.length script_ : Nat) : Int))))) (fun (s4 : Unit) => ⟨[some (isq K script_), none, none, none, none, none, none, none, none, none, none], []⟩) () (fun (s4 : Unit) (x1 : Int) => (if (!(m_law_stands_so ([] : Tx) (tx "") ([] : List Int))) = true then (.rt false) else (if (!(growP (takeP (potP script_ x1) (61 : Int)).2 ([] : Tx) ([] : Tx) (takeP (potP script_ x1) (61 : Int)).1).1) = true then (Ctl.lift (letC (growP (takeP (potP script_ x1) (61 : Int)).2 ([] : Tx) ([] : Tx) (takeP (potP script_ x1) (61 : Int)).1).2.2.2 fun (z13 : Tx) => (letC (growP (takeP (potP script_ x1) (61 : Int)).2 ([] : Tx) ([] : Tx) (takeP (potP script_ x1) (61 : Int)).1).2.2.1 fun (z14 : Tx) => (letC (growP (takeP (potP script_ x1) (61 : Int)).2 ([] : Tx) ([] : Tx) (takeP (potP script_ x1) (61 : Int)).1).2.1 fun (z15 : Pot) => (.rt false))))) else (letC (growP (takeP (potP script_ x1) (61 : Int)).2 ([] : Tx) ([] : Tx) (takeP (potP script_ x1) (61 : Int)).1).2.2.2 fun (z16 : Tx) => (letC (growP (takeP (potP script_ x1) (61 : Int)).2 ([] : Tx) ([] : Tx) (takeP (potP script_ x1) (61 : Int)).1).2.2.1 fun (z17 : Tx) => (letC (growP (takeP (potP script_ x1) (61 : Int)).2 ([] : Tx) ([] : Tx) (takeP (potP script_ x1) (61 : Int)).1).2.1 fun (z18 : Pot) => (letC (ixI (momsOf z16) (-(1 : Int))) fun (t_20 : (Tx × (List Int))) => (if (!(decide (t_20.2 = (cuts t_20.1)))) = true then (.rt false) else (if (!(m_is_net t_20.1 t_20.2)) = true then (.rt false) else (if (!(m_law_words_met z17 t_20.1 t_20.2)) = true then (.rt false) else (letC (takeP z18 (((List.length t_20.1 : Nat) : Int) + (1 : Int))).1 fun (fork_26 : Int) => (letC (takeP z18 (((List.length t_20.1 : Nat) : Int) + (1 : Int))).2 fun (z27 : Pot) => (letC (cut (momsOf z16) none (some (fork_26 + (1 : Int)))) fun (first_ones_28 : (List (Tx × (List Int)))) => (if (!(backP z17 z16 fork_26).1) = true then (.rt false) else (if (!(growP (takeP z27 ((61 : Int) - fork_26)).2 (backP z17 z16 fork_26).2.1 (backP z17 z16 fork_26).2.2 (takeP z27 ((61 : Int) - fork_26)).1).1) = true then (Ctl.lift (letC (growP (takeP z27 ((61 : Int) - fork_26)).2 (backP z17 z16 fork_26).2.1 (backP z17 z16 fork_26).2.2 (takeP z27 ((61 : Int) - fork_26)).1).2.2.2 fun (z34 : Tx) => (letC (growP (takeP z27 ((61 : Int) - fork_26)).2 (backP z17 z16 fork_26).2.1 (backP z17 z16 fork_26).2.2 (takeP z27 ((61 : Int) - fork_26)).1).2.2.1 fun (z35 : Tx) => (letC (growP (takeP z27 ((61 : Int) - fork_26)).2 (backP z17 z16 fork_26).2.1 (backP z17 z16 fork_26).2.2 (takeP z27 ((61 : Int) - fork_26)).1).2.1 fun (z36 : Pot) => (.rt false))))) else (letC (growP (takeP z27 ((61 : Int) - fork_26)).2 (backP z17 z16 fork_26).2.1 (backP z17 z16 fork_26).2.2 (takeP z27 ((61 : Int) - fork_26)).1).2.2.2 fun (z37 : Tx) => (letC (growP (takeP z27 ((61 : Int) - fork_26)).2 (backP z17 z16 fork_26).2.1 (backP z17 z16 fork_26).2.2 (takeP z27 ((61 : Int) - fork_26)).1).2.2.1 fun (z38 : Tx) => (letC (growP (takeP z27 ((61 : Int) - fork_26)).2 (backP z17 z16 fork_26).2.1 (backP z17 z16 fork_26).2.2 (takeP z27 ((61 : Int) - fork_26)).1).2.1 fun (z39 : Pot) => (letC (ixI (momsOf z37) (-(1 : Int))) fun (t_41 : (Tx × (List Int))) => (if (!(decide (t_41.2 = (cuts t_41.1)))) = true then (.rt false) else (if (!(m_is_net t_41.1 t_41.2)) = true then (.rt false) else (Ctl.bind (forC (List.map (fun c => ([c] : Tx)) t_41.1) ([] : Tx) (fun (s49 : Tx) (x46 : Tx) => (.nx (k_put s49 x46).2))) fun (s49 : Tx) => (if (!(m_law_stands_so s49 t_41.1 t_41.2)) = true then (.rt false) else (if (!(backP z38 z37 fork_26).1) = true then (.rt false) else (if (!(decide ((momsOf (backP z38 z37 fork_26).2.2) = first_ones_28))) = true then (.rt false) else (if (!(backP (backP z38 z37 fork_26).2.1 (backP z38 z37 fork_26).2.2 (0 : Int)).1) = true then (Ctl.lift (letC (backP (backP z38 z37 fork_26).2.1 (backP z38 z37 fork_26).2.2 (0 : Int)).2.2 fun (z57 : Tx) => (letC (backP (backP z38 z37 fork_26).2.1 (backP z38 z37 fork_26).2.2 (0 : Int)).2.1 fun (z58 : Tx) => (.rt false)))) else (if (!(m_law_stands_so (backP (backP z38 z37 fork_26).2.1 (backP z38 z37 fork_26).2.2 (0 : Int)).2.1 (tx "") ([] : List Int))) = true then (Ctl.lift (letC (backP (backP z38 z37 fork_26).2.1 (backP z38 z37 fork_26).2.2 (0 : Int)).2.2 fun (z60 : Tx) => (letC (backP (backP z38 z37 fork_26).2.1 (backP z38 z37 fork_26).2.2 (0 : Int)).2.1 fun (z61 : Tx) => (.rt false)))) else (if (!(m_law_stands_so s49 t_41.1 t_41.2)) = true then (Ctl.lift (letC (backP (backP z38 z37 fork_26).2.1 (backP z38 z37 fork_26).2.2 (0 : Int)).2.2 fun (z63 : Tx) => (letC (backP (backP z38 z37 fork_26).2.1 (backP z38 z37 fork_26).2.2 (0 : Int)).2.1 fun (z64 : Tx) => (.rt false)))) else (.nx ()))))))))))))))))))))))))))))) (fun _ _ => True) (i_rng1 (a_cons (x_max2 (x_int) (x_min2 (x_int) (x_lenR (x_var (R := isq K script_))))) a_nil) (by walk_at "vc") (by walk_at "vc")) (g_name (α := Int) (i := 1)) (⟨⟨.inr rfl, .inl rfl, .inl rfl, .inl rfl, .inl rfl, .inl rfl, .inl rfl, .inl rfl, .inl rfl, .inl rfl, .inl rfl, trivial⟩, .slnil⟩) (trivial) (fun _ _ _ _ _ _ _ => trivial) (fun n3 x1 s4 hx2 hI5 => have hfx1 := irange_at hx2; b_asgN (i := 2) (n_callN (α := Int) (r := (potL (potP script_ x1))) (fs := fp__law_pot K) (script_, x1) (show 0 ≤ (x1) ∧ (x1) ≤ 100 from (by walk_at "vc")) (a_cons (x_var (R := isq K script_)) (a_cons (x_var (R := isa (x1 : Int))) (a_nil)))) (fun p_state6 => b_asgK (i := 3) x_make (fun k_keeper7 => b_asgN (i := 4) (n_lst (α := (Tx × (List Int))) (xs := ([((tx ""), ([] : List Int))] : List (Tx × (List Int)))) (a_cons (x_tup2 (x := ((tx "") : Tx)) (y := (([] : List Int) : (List Int))) (a_cons (x_tx "") (a_cons (XN.frz (n_nil (α := Int))) (a_nil)))) (a_nil)) (by simp only [List.length_cons, List.length_nil]; omega)) (fun p_moments8 => b_gOr (CE := fun (e : Empty) => e.elim) (t_not (t_v (x_callR (fs := (fs__law_stands_so K)) (r := (m_law_stands_so ([] : Tx) (tx "") ([] : List Int))) (c := kpC (He.ga K "Keeper") k_keeper7 (kst (([] : Tx) : Tx))) 1 (k_keeper7, ([] : Tx), (tx ""), ([] : List Int)) (show ((tx "")).length ≤ 60 ∧ (([] : List Int)).length ≤ 60 from (by walk_at "vc")) (a_cons (x_var (R := isr k_keeper7.p)) (a_cons (x_tx "") (a_cons (XN.frz (n_nil (α := Int))) (a_nil))))))) (fun h9 => b_retS (r := false) (x_bl)) (fun h9 => have hc10 := take_lt (potP script_ x1) (61 : Int) (by walk_at "vc"); have hc11 := growP_f (takeP (potP script_ x1) (61 : Int)).2 ([] : Tx) ([] : Tx) (takeP (potP script_ x1) (61 : Int)).1 (by exact ⟨rfl, low_nil, by omega, by simp only [List.length_nil]; omega⟩); b_guard (CE := fun (e : Empty) => e.elim) (t_not (t_v (x_call3 (fs := (fp__law_grown K)) (r := (growP (takeP (potP script_ x1) (61 : Int)).2 ([] : Tx) ([] : Tx) (takeP (potP script_ x1) (61 : Int)).1)) 2 [lstC p_moments8 (momsOf ((growP (takeP (potP script_ x1) (61 : Int)).2 ([] : Tx) ([] : Tx) (takeP (potP script_ x1) (61 : Int)).1).2.2.2 : Tx)), kpC (He.ga K "Keeper") k_keeper7 (kst ((growP (takeP (potP script_ x1) (61 : Int)).2 ([] : Tx) ([] : Tx) (takeP (potP script_ x1) (61 : Int)).1).2.2.1 : Tx)), lstC p_state6 (potL ((growP (takeP (potP script_ x1) (61 : Int)).2 ([] : Tx) ([] : Tx) (takeP (potP script_ x1) (61 : Int)).1).2.1 : Pot))] 1 0 (p_state6, k_keeper7, p_moments8, (takeP (potP script_ x1) (61 : Int)).2, ([] : Tx), ([] : Tx), (takeP (potP script_ x1) (61 : Int)).1) (show (([] : Tx)) = (([] : Tx)) ∧ LowT (([] : Tx)) ∧ 0 ≤ ((takeP (potP script_ x1) (61 : Int)).1) ∧ ((([] : Tx)).length : Int) + ((takeP (potP script_ x1) (61 : Int)).1) ≤ 60 from (by exact ⟨rfl, low_nil, by omega, by simp only [List.length_nil]; omega⟩)) (a_cons (x_var (R := isr p_state6)) (a_cons (x_var (R := isr k_keeper7.p)) (a_cons (x_var (R := isr p_moments8)) (a_cons (x_call1 (fs := (fp__law_take K)) (r := (takeP (potP script_ x1) (61 : Int))) (c' := lstC p_state6 (potL ((takeP (potP script_ x1) (61 : Int)).2 : Pot))) 2 (p_state6, (potP script_ x1), (61 : Int)) (show 0 < ((61 : Int)) ∧ ((61 : Int)) ≤ 1000 from (by walk_at "vc")) (a_cons (x_var (R := isr p_state6)) (a_cons (x_int) (a_nil)))) (a_nil)))))))) (fun h12 => b_let (x := (growP (takeP (potP script_ x1) (61 : Int)).2 ([] : Tx) ([] : Tx) (takeP (potP script_ x1) (61 : Int)).1).2.2.2) (fun (z13 : Tx) => ⟨[some (isq K script_), some (isa (x1 : Int)), some (isr p_state6), some (isr k_keeper7.p), some (isr p_moments8), none, none, none, none, none, none], [lstC p_moments8 (momsOf (z13 : Tx)), kpC (He.ga K "Keeper") k_keeper7 (kst ((growP (takeP (potP script_ x1) (61 : Int)).2 ([] : Tx) ([] : Tx) (takeP (potP script_ x1) (61 : Int)).1).2.2.1 : Tx)), lstC p_state6 (potL ((growP (takeP (potP script_ x1) (61 : Int)).2 ([] : Tx) ([] : Tx) (takeP (potP script_ x1) (61 : Int)).1).2.1 : Pot))]⟩) (fun z13 hz13 => b_let (x := (growP (takeP (potP script_ x1) (61 : Int)).2 ([] : Tx) ([] : Tx) (takeP (potP script_ x1) (61 : Int)).1).2.2.1) (fun (z14 : Tx) => ⟨[some (isq K script_), some (isa (x1 : Int)), some (isr p_state6), some (isr k_keeper7.p), some (isr p_moments8), none, none, none, none, none, none], [lstC p_moments8 (momsOf (z13 : Tx)), kpC (He.ga K "Keeper") k_keeper7 (kst (z14 : Tx)), lstC p_state6 (potL ((growP (takeP (potP script_ x1) (61 : Int)).2 ([] : Tx) ([] : Tx) (takeP (potP script_ x1) (61 : Int)).1).2.1 : Pot))]⟩) (fun z14 hz14 => have hlz14 := congrArg List.length hz14; b_let (x := (growP (takeP (potP script_ x1) (61 : Int)).2 ([] : Tx) ([] : Tx) (takeP (potP script_ x1) (61 : Int)).1).2.1) (fun (z15 : Pot) => ⟨[some (isq K script_), some (isa (x1 : Int)), some (isr p_state6), some (isr k_keeper7.p), some (isr p_moments8), none, none, none, none, none, none], [lstC p_moments8 (momsOf (z13 : Tx)), kpC (He.ga K "Keeper") k_keeper7 (kst (z14 : Tx)), lstC p_state6 (potL (z15 : Pot))]⟩) (fun z15 hz15 => b_retS (r := false) (x_bl))))) (fun h12 => b_let (x := (growP (takeP (potP script_ x1) (61 : Int)).2 ([] : Tx) ([] : Tx) (takeP (potP script_ x1) (61 : Int)).1).2.2.2) (fun (z16 : Tx) => ⟨[some (isq K script_), some (isa (x1 : Int)), some (isr p_state6), some (isr k_keeper7.p), some (isr p_moments8), none, none, none, none, none, none], [lstC p_moments8 (momsOf (z16 : Tx)), kpC (He.ga K "Keeper") k_keeper7 (kst ((growP (takeP (potP script_ x1) (61 : Int)).2 ([] : Tx) ([] : Tx) (takeP (potP script_ x1) (61 : Int)).1).2.2.1 : Tx)), lstC p_state6 (potL ((growP (takeP (potP script_ x1) (61 : Int)).2 ([] : Tx) ([] : Tx) (takeP (potP script_ x1) (61 : Int)).1).2.1 : Pot))]⟩) (fun z16 hz16 => b_let (x := (growP (takeP (potP script_ x1) (61 : Int)).2 ([] : Tx) ([] : Tx) (takeP (potP script_ x1) (61 : Int)).1).2.2.1) (fun (z17 : Tx) => ⟨[some (isq K script_), some (isa (x1 : Int)), some (isr p_state6), some (isr k_keeper7.p), some (isr p_moments8), none, none, none, none, none, none], [lstC p_moments8 (momsOf (z16 : Tx)), kpC (He.ga K "Keeper") k_keeper7 (kst (z17 : Tx)), lstC p_state6 (potL ((growP (takeP (potP script_ x1) (61 : Int)).2 ([] : Tx) ([] : Tx) (takeP (potP script_ x1) (61 : Int)).1).2.1 : Pot))]⟩) (fun z17 hz17 => have hlz17 := congrArg List.length hz17; b_let (x := (growP (takeP (potP script_ x1) (61 : Int)).2 ([] : Tx) ([] : Tx) (takeP (potP script_ x1) (61 : Int)).1).2.1) (fun (z18 : Pot) => ⟨[some (isq K script_), some (isa (x1 : Int)), some (isr p_state6), some (isr k_keeper7.p), some (isr p_moments8), none, none, none, none, none, none], [lstC p_moments8 (momsOf (z16 : Tx)), kpC (He.ga K "Keeper") k_keeper7 (kst (z17 : Tx)), lstC p_state6 (potL (z18 : Pot))]⟩) (fun z18 hz18 => have hc19 := moms_len z16; b_asgTV (x_ixO (α := (Tx × (List Int))) (xs := momsOf z16) (p := p_moments8) 0 (x_var (R := isr p_moments8)) (x_neg (x_int)) (by walk_at "vc")) (g_tup2 (K := K) (α := Tx) (β := (List Int)) (i := 5) (j := 6)) (fun t_20 ht_20 => have hzz : z16 = z17 := hz16.trans (Eq.trans (And.left ‹(growP _ _ _ _).2.2.2 = _ ∧ _›) hz17.symm); have hzg := grow_have hz17 ‹_›; have hzn := hzg.1; have hzk := hzg.2.1; have ht : t_20 = (z17, cuts z17) := ht_20.trans (by rw [hzz]; exact moms_last _); have htl : List.length t_20.1 = List.length z17 := (by rw [ht]); have hts : List.length t_20.2 = List.length (cuts z17) := (by rw [ht]); have htc := cuts_len z17; have hnil : List.length ([] : Tx) = 0 := rfl; have hc21 := cuts_len t_20.1; b_gOr (CE := fun (e : Empty) => e.elim) (t_t (x_ne (α := (List Int)) (x_var (R := isa (t_20.2 : (List Int)))) (x_call (fs := (fp_first_cutting K)) (r := (cuts t_20.1)) t_20.1 (show (t_20.1).length ≤ 60 from (by walk_at "vc")) (a_cons (x_var (R := isa (t_20.1 : Tx))) (a_nil))))) (fun h22 => b_retS (r := false) (x_bl)) (fun h22 => b_gOr (CE := fun (e : Empty) => e.elim) (t_not (t_v (x_call (fs := (fs_is_net K)) (r := (m_is_net t_20.1 t_20.2)) (t_20.1, t_20.2) (show (t_20.1).length ≤ 1000 ∧ (t_20.2).length ≤ 1000 from (by walk_at "vc")) (a_cons (x_var (R := isa (t_20.1 : Tx))) (a_cons (x_var (R := isa (t_20.2 : (List Int)))) (a_nil)))))) (fun h23 => b_retS (r := false) (x_bl)) (fun h23 => b_guard (CE := fun (e : Empty) => e.elim) (t_not (t_v (x_callR (fs := (fs__law_words_met K)) (r := (m_law_words_met z17 t_20.1 t_20.2)) (c := kpC (He.ga K "Keeper") k_keeper7 (kst (z17 : Tx))) 1 (k_keeper7, z17, t_20.1, t_20.2) (show (z17).length ≤ 60 ∧ (t_20.1).length ≤ 60 ∧ (t_20.2).length ≤ 60 from (by walk_at "vc")) (a_cons (x_var (R := isr k_keeper7.p)) (a_cons (x_var (R := isa (t_20.1 : Tx))) (a_cons (x_var (R := isa (t_20.2 : (List Int)))) (a_nil))))))) (fun h24 => b_retS (r := false) (x_bl)) (fun h24 => have hc25 := take_lt z18 (((List.length t_20.1 : Nat) : Int) + (1 : Int)) (by walk_at "vc"); b_asgV (i := 7) (x_call1 (fs := (fp__law_take K)) (r := (takeP z18 (((List.length t_20.1 : Nat) : Int) + (1 : Int)))) (c' := lstC p_state6 (potL ((takeP z18 (((List.length t_20.1 : Nat) : Int) + (1 : Int))).2 : Pot))) 2 (p_state6, z18, (((List.length t_20.1 : Nat) : Int) + (1 : Int))) (show 0 < ((((List.length t_20.1 : Nat) : Int) + (1 : Int))) ∧ ((((List.length t_20.1 : Nat) : Int) + (1 : Int))) ≤ 1000 from (by walk_at "vc")) (a_cons (x_var (R := isr p_state6)) (a_cons (x_add (x_lenS (x_var (R := isa (t_20.1 : Tx))) (by walk_at "vc")) (x_int)) (a_nil)))) (fun fork_26 hfork_26 => b_let (x := (takeP z18 (((List.length t_20.1 : Nat) : Int) + (1 : Int))).2) (fun (z27 : Pot) => ⟨[some (isq K script_), some (isa (x1 : Int)), some (isr p_state6), some (isr k_keeper7.p), some (isr p_moments8), some (isa (t_20.1 : Tx)), some (isa (t_20.2 : (List Int))), some (isa (fork_26 : Int)), none, none, none], [lstC p_moments8 (momsOf (z16 : Tx)), kpC (He.ga K "Keeper") k_keeper7 (kst (z17 : Tx)), lstC p_state6 (potL (z27 : Pot))]⟩) (fun z27 hz27 => b_asgV (i := 8) (XN.frz (n_list (α := (Tx × (List Int))) (xs := (cut (momsOf z16) none (some (fork_26 + (1 : Int))))) (x_slO (α := (Tx × (List Int))) (xs := (momsOf z16)) (p := p_moments8) 0 (x_var (R := isr p_moments8)) (o_none) (o_some (x_add (x_var (R := isa (fork_26 : Int))) (x_int)))))) (fun first_ones_28 hfirst_ones_28 => have hlfirst_ones_28 := congrArg List.length hfirst_ones_28; have hc29 := backP_f z17 z16 fork_26 (by exact ⟨hzz, by omega, by omega, by omega⟩); b_gOr (CE := fun (e : Empty) => e.elim) (t_not (t_v (x_call2 (fs := (fp__law_back_to K)) (r := (backP z17 z16 fork_26)) 1 0 [lstC p_moments8 (momsOf ((backP z17 z16 fork_26).2.2 : Tx)), kpC (He.ga K "Keeper") k_keeper7 (kst ((backP z17 z16 fork_26).2.1 : Tx)), lstC p_state6 (potL (z27 : Pot))] 0 (k_keeper7, p_moments8, z17, z16, fork_26) (show (z16) = (z17) ∧ (z17).length ≤ 60 ∧ 0 ≤ (fork_26) ∧ (fork_26) ≤ (z17).length from (by exact ⟨hzz, by omega, by omega, by omega⟩)) (a_cons (x_var (R := isr k_keeper7.p)) (a_cons (x_var (R := isr p_moments8)) (a_cons (x_var (R := isa (fork_26 : Int))) (a_nil))))))) (fun h30 => b_retS (r := false) (x_bl)) (fun h30 => have hc31 := take_lt z27 ((61 : Int) - fork_26) (by walk_at "vc"); have hc32 := growP_f (takeP z27 ((61 : Int) - fork_26)).2 (backP z17 z16 fork_26).2.1 (backP z17 z16 fork_26).2.2 (takeP z27 ((61 : Int) - fork_26)).1 (by have hq := ‹_ ∧ (backP _ _ _).2.2 = _ ∧ _›; have h1 := hq.1; exact ⟨hq.2.1, hq.2.2 hzk, by omega, by omega⟩); b_guard (CE := fun (e : Empty) => e.elim) (t_not (t_v (x_call3 (fs := (fp__law_grown K)) (r := (growP (takeP z27 ((61 : Int) - fork_26)).2 (backP z17 z16 fork_26).2.1 (backP z17 z16 fork_26).2.2 (takeP z27 ((61 : Int) - fork_26)).1)) 2 [lstC p_moments8 (momsOf ((growP (takeP z27 ((61 : Int) - fork_26)).2 (backP z17 z16 fork_26).2.1 (backP z17 z16 fork_26).2.2 (takeP z27 ((61 : Int) - fork_26)).1).2.2.2 : Tx)), kpC (He.ga K "Keeper") k_keeper7 (kst ((growP (takeP z27 ((61 : Int) - fork_26)).2 (backP z17 z16 fork_26).2.1 (backP z17 z16 fork_26).2.2 (takeP z27 ((61 : Int) - fork_26)).1).2.2.1 : Tx)), lstC p_state6 (potL ((growP (takeP z27 ((61 : Int) - fork_26)).2 (backP z17 z16 fork_26).2.1 (backP z17 z16 fork_26).2.2 (takeP z27 ((61 : Int) - fork_26)).1).2.1 : Pot))] 1 0 (p_state6, k_keeper7, p_moments8, (takeP z27 ((61 : Int) - fork_26)).2, (backP z17 z16 fork_26).2.1, (backP z17 z16 fork_26).2.2, (takeP z27 ((61 : Int) - fork_26)).1) (show ((backP z17 z16 fork_26).2.2) = ((backP z17 z16 fork_26).2.1) ∧ LowT ((backP z17 z16 fork_26).2.1) ∧ 0 ≤ ((takeP z27 ((61 : Int) - fork_26)).1) ∧ (((backP z17 z16 fork_26).2.1).length : Int) + ((takeP z27 ((61 : Int) - fork_26)).1) ≤ 60 from (by have hq := ‹_ ∧ (backP _ _ _).2.2 = _ ∧ _›; have h1 := hq.1; exact ⟨hq.2.1, hq.2.2 hzk, by omega, by omega⟩)) (a_cons (x_var (R := isr p_state6)) (a_cons (x_var (R := isr k_keeper7.p)) (a_cons (x_var (R := isr p_moments8)) (a_cons (x_call1 (fs := (fp__law_take K)) (r := (takeP z27 ((61 : Int) - fork_26))) (c' := lstC p_state6 (potL ((takeP z27 ((61 : Int) - fork_26)).2 : Pot))) 2 (p_state6, z27, ((61 : Int) - fork_26)) (show 0 < (((61 : Int) - fork_26)) ∧ (((61 : Int) - fork_26)) ≤ 1000 from (by walk_at "vc")) (a_cons (x_var (R := isr p_state6)) (a_cons (x_sub (x_int) (x_var (R := isa (fork_26 : Int)))) (a_nil)))) (a_nil)))))))) (fun h33 => b_let (x := (growP (takeP z27 ((61 : Int) - fork_26)).2 (backP z17 z16 fork_26).2.1 (backP z17 z16 fork_26).2.2 (takeP z27 ((61 : Int) - fork_26)).1).2.2.2) (fun (z34 : Tx) => ⟨[some (isq K script_), some (isa (x1 : Int)), some (isr p_state6), some (isr k_keeper7.p), some (isr p_moments8), some (isa (t_20.1 : Tx)), some (isa (t_20.2 : (List Int))), some (isa (fork_26 : Int)), some (isa (first_ones_28 : (List (Tx × (List Int))))), none, none], [lstC p_moments8 (momsOf (z34 : Tx)), kpC (He.ga K "Keeper") k_keeper7 (kst ((growP (takeP z27 ((61 : Int) - fork_26)).2 (backP z17 z16 fork_26).2.1 (backP z17 z16 fork_26).2.2 (takeP z27 ((61 : Int) - fork_26)).1).2.2.1 : Tx)), lstC p_state6 (potL ((growP (takeP z27 ((61 : Int) - fork_26)).2 (backP z17 z16 fork_26).2.1 (backP z17 z16 fork_26).2.2 (takeP z27 ((61 : Int) - fork_26)).1).2.1 : Pot))]⟩) (fun z34 hz34 => b_let (x := (growP (takeP z27 ((61 : Int) - fork_26)).2 (backP z17 z16 fork_26).2.1 (backP z17 z16 fork_26).2.2 (takeP z27 ((61 : Int) - fork_26)).1).2.2.1) (fun (z35 : Tx) => ⟨[some (isq K script_), some (isa (x1 : Int)), some (isr p_state6), some (isr k_keeper7.p), some (isr p_moments8), some (isa (t_20.1 : Tx)), some (isa (t_20.2 : (List Int))), some (isa (fork_26 : Int)), some (isa (first_ones_28 : (List (Tx × (List Int))))), none, none], [lstC p_moments8 (momsOf (z34 : Tx)), kpC (He.ga K "Keeper") k_keeper7 (kst (z35 : Tx)), lstC p_state6 (potL ((growP (takeP z27 ((61 : Int) - fork_26)).2 (backP z17 z16 fork_26).2.1 (backP z17 z16 fork_26).2.2 (takeP z27 ((61 : Int) - fork_26)).1).2.1 : Pot))]⟩) (fun z35 hz35 => have hlz35 := congrArg List.length hz35; b_let (x := (growP (takeP z27 ((61 : Int) - fork_26)).2 (backP z17 z16 fork_26).2.1 (backP z17 z16 fork_26).2.2 (takeP z27 ((61 : Int) - fork_26)).1).2.1) (fun (z36 : Pot) => ⟨[some (isq K script_), some (isa (x1 : Int)), some (isr p_state6), some (isr k_keeper7.p), some (isr p_moments8), some (isa (t_20.1 : Tx)), some (isa (t_20.2 : (List Int))), some (isa (fork_26 : Int)), some (isa (first_ones_28 : (List (Tx × (List Int))))), none, none], [lstC p_moments8 (momsOf (z34 : Tx)), kpC (He.ga K "Keeper") k_keeper7 (kst (z35 : Tx)), lstC p_state6 (potL (z36 : Pot))]⟩) (fun z36 hz36 => b_retS (r := false) (x_bl))))) (fun h33 => b_let (x := (growP (takeP z27 ((61 : Int) - fork_26)).2 (backP z17 z16 fork_26).2.1 (backP z17 z16 fork_26).2.2 (takeP z27 ((61 : Int) - fork_26)).1).2.2.2) (fun (z37 : Tx) => ⟨[some (isq K script_), some (isa (x1 : Int)), some (isr p_state6), some (isr k_keeper7.p), some (isr p_moments8), some (isa (t_20.1 : Tx)), some (isa (t_20.2 : (List Int))), some (isa (fork_26 : Int)), some (isa (first_ones_28 : (List (Tx × (List Int))))), none, none], [lstC p_moments8 (momsOf (z37 : Tx)), kpC (He.ga K "Keeper") k_keeper7 (kst ((growP (takeP z27 ((61 : Int) - fork_26)).2 (backP z17 z16 fork_26).2.1 (backP z17 z16 fork_26).2.2 (takeP z27 ((61 : Int) - fork_26)).1).2.2.1 : Tx)), lstC p_state6 (potL ((growP (takeP z27 ((61 : Int) - fork_26)).2 (backP z17 z16 fork_26).2.1 (backP z17 z16 fork_26).2.2 (takeP z27 ((61 : Int) - fork_26)).1).2.1 : Pot))]⟩) (fun z37 hz37 => b_let (x := (growP (takeP z27 ((61 : Int) - fork_26)).2 (backP z17 z16 fork_26).2.1 (backP z17 z16 fork_26).2.2 (takeP z27 ((61 : Int) - fork_26)).1).2.2.1) (fun (z38 : Tx) => ⟨[some (isq K script_), some (isa (x1 : Int)), some (isr p_state6), some (isr k_keeper7.p), some (isr p_moments8), some (isa (t_20.1 : Tx)), some (isa (t_20.2 : (List Int))), some (isa (fork_26 : Int)), some (isa (first_ones_28 : (List (Tx × (List Int))))), none, none], [lstC p_moments8 (momsOf (z37 : Tx)), kpC (He.ga K "Keeper") k_keeper7 (kst (z38 : Tx)), lstC p_state6 (potL ((growP (takeP z27 ((61 : Int) - fork_26)).2 (backP z17 z16 fork_26).2.1 (backP z17 z16 fork_26).2.2 (takeP z27 ((61 : Int) - fork_26)).1).2.1 : Pot))]⟩) (fun z38 hz38 => have hlz38 := congrArg List.length hz38; b_let (x := (growP (takeP z27 ((61 : Int) - fork_26)).2 (backP z17 z16 fork_26).2.1 (backP z17 z16 fork_26).2.2 (takeP z27 ((61 : Int) - fork_26)).1).2.1) (fun (z39 : Pot) => ⟨[some (isq K script_), some (isa (x1 : Int)), some (isr p_state6), some (isr k_keeper7.p), some (isr p_moments8), some (isa (t_20.1 : Tx)), some (isa (t_20.2 : (List Int))), some (isa (fork_26 : Int)), some (isa (first_ones_28 : (List (Tx × (List Int))))), none, none], [lstC p_moments8 (momsOf (z37 : Tx)), kpC (He.ga K "Keeper") k_keeper7 (kst (z38 : Tx)), lstC p_state6 (potL (z39 : Pot))]⟩) (fun z39 hz39 => have hc40 := moms_len z37; b_asgTV (x_ixO (α := (Tx × (List Int))) (xs := momsOf z37) (p := p_moments8) 0 (x_var (R := isr p_moments8)) (x_neg (x_int)) (by walk_at "vc")) (g_tup2 (K := K) (α := Tx) (β := (List Int)) (i := 5) (j := 6)) (fun t_41 ht_41 => have hzz : z37 = z38 := hz37.trans (Eq.trans (And.left ‹(growP _ _ _ _).2.2.2 = _ ∧ _›) hz38.symm); have hzg := grow_have hz38 ‹_›; have hzn := hzg.1; have hzk := hzg.2.1; have ht : t_41 = (z38, cuts z38) := ht_41.trans (by rw [hzz]; exact moms_last _); have htl : List.length t_41.1 = List.length z38 := (by rw [ht]); have hts : List.length t_41.2 = List.length (cuts z38) := (by rw [ht]); have htc := cuts_len z38; have hnil : List.length ([] : Tx) = 0 := rfl; have hc42 := cuts_len t_41.1; b_gOr (CE := fun (e : Empty) => e.elim) (t_t (x_ne (α := (List Int)) (x_var (R := isa (t_41.2 : (List Int)))) (x_call (fs := (fp_first_cutting K)) (r := (cuts t_41.1)) t_41.1 (show (t_41.1).length ≤ 60 from (by walk_at "vc")) (a_cons (x_var (R := isa (t_41.1 : Tx))) (a_nil))))) (fun h43 => b_retS (r := false) (x_bl)) (fun h43 => b_guard (CE := fun (e : Empty) => e.elim) (t_not (t_v (x_call (fs := (fs_is_net K)) (r := (m_is_net t_41.1 t_41.2)) (t_41.1, t_41.2) (show (t_41.1).length ≤ 1000 ∧ (t_41.2).length ≤ 1000 from (by walk_at "vc")) (a_cons (x_var (R := isa (t_41.1 : Tx))) (a_cons (x_var (R := isa (t_41.2 : (List Int)))) (a_nil)))))) (fun h44 => b_retS (r := false) (x_bl)) (fun h44 => b_asgK (i := 9) x_make (fun k_other45 => b_forS (α := Tx) (xs := (List.map (fun c => ([c] : Tx)) t_41.1)) (fun (s49 : Tx) => ⟨[some (isq K script_), some (isa (x1 : Int)), some (isr p_state6), some (isr k_keeper7.p), some (isr p_moments8), some (isa (t_41.1 : Tx)), some (isa (t_41.2 : (List Int))), some (isa (fork_26 : Int)), some (isa (first_ones_28 : (List (Tx × (List Int))))), some (isr k_other45.p), none], [kpC (He.ga K "Keeper") k_other45 (kst (s49 : Tx)), lstC p_moments8 (momsOf (z37 : Tx)), kpC (He.ga K "Keeper") k_keeper7 (kst (z38 : Tx)), lstC p_state6 (potL (z39 : Pot))]⟩) ([] : Tx) (fun (s49 : Tx) (x46 : Tx) => (.nx (k_put s49 x46).2)) (fun n s => s = (t_41.1).take n) (i_str (x_var (R := isa (t_41.1 : Tx)))) (g_name (α := Tx) (i := 10)) (⟨⟨.inr rfl, .inr rfl, .inr rfl, .inr rfl, .inr rfl, .inr rfl, .inr rfl, .inr rfl, .inr rfl, .inr rfl, .inl rfl, trivial⟩, .cons₂ _ (.cons₂ _ (.cons₂ _ (.cons₂ _ (.slnil))))⟩) (rfl) (fun n x s s' hx hI h => put_step hx hI h) (fun n48 x46 s49 hx47 hI50 => have hfx46 := mem_at hx47; have hInv := hI50; b_drop (Rv := isa ((k_put s49 x46).1 : Unit)) (x_methK (fs := fp_Keeper_put K) (r := (k_put s49 x46)) (k := k_other45) (s := (kst s49)) (s' := (kst (k_put s49 x46).2)) 0 (k_other45, s49, x46) (show (s49).length < 60 ∧ isL (x46) from (by exact put_pre2 ‹(List.map _ _)[_]? = some _› hInv (by rw [ht]; exact hzk) (by omega))) (x_var (R := isr k_other45.p)) (a_cons (x_var (R := isa (x46 : Tx))) (a_nil))) (b_nil (⟨⟨.inr rfl, .inr rfl, .inr rfl, .inr rfl, .inr rfl, .inr rfl, .inr rfl, .inr rfl, .inr rfl, .inr rfl, .inl rfl, trivial⟩, .cons₂ _ (.cons₂ _ (.cons₂ _ (.cons₂ _ (.slnil))))⟩))) (fun s49 hI50 => have hEnd := hI50; b_gOr (CE := fun (e : Empty) => e.elim) (t_not (t_v (x_callR (fs := (fs__law_stands_so K)) (r := (m_law_stands_so s49 t_41.1 t_41.2)) (c := kpC (He.ga K "Keeper") k_other45 (kst (s49 : Tx))) 0 (k_other45, s49, t_41.1, t_41.2) (show (t_41.1).length ≤ 60 ∧ (t_41.2).length ≤ 60 from (by walk_at "vc")) (a_cons (x_var (R := isr k_other45.p)) (a_cons (x_var (R := isa (t_41.1 : Tx))) (a_cons (x_var (R := isa (t_41.2 : (List Int)))) (a_nil))))))) (fun h51 => b_retS (r := false) (x_bl)) (fun h51 => have hc52 := backP_f z38 z37 fork_26 (by exact ⟨hzz, by omega, by omega, by omega⟩); b_gOr (CE := fun (e : Empty) => e.elim) (t_not (t_v (x_call2 (fs := (fp__law_back_to K)) (r := (backP z38 z37 fork_26)) 2 1 [kpC (He.ga K "Keeper") k_other45 (kst (s49 : Tx)), lstC p_moments8 (momsOf ((backP z38 z37 fork_26).2.2 : Tx)), kpC (He.ga K "Keeper") k_keeper7 (kst ((backP z38 z37 fork_26).2.1 : Tx)), lstC p_state6 (potL (z39 : Pot))] 1 (k_keeper7, p_moments8, z38, z37, fork_26) (show (z37) = (z38) ∧ (z38).length ≤ 60 ∧ 0 ≤ (fork_26) ∧ (fork_26) ≤ (z38).length from (by exact ⟨hzz, by omega, by omega, by omega⟩)) (a_cons (x_var (R := isr k_keeper7.p)) (a_cons (x_var (R := isr p_moments8)) (a_cons (x_var (R := isa (fork_26 : Int))) (a_nil))))))) (fun h53 => b_retS (r := false) (x_bl)) (fun h53 => b_guard (CE := fun (e : Empty) => e.elim) (t_t (x_neO (α := (Tx × (List Int))) (xs := (momsOf (backP z38 z37 fork_26).2.2)) 1 (x_var (R := isr p_moments8)) (x_var (R := isa (first_ones_28 : (List (Tx × (List Int)))))))) (fun h54 => b_retS (r := false) (x_bl)) (fun h54 => have hc55 := backP_f (backP z38 z37 fork_26).2.1 (backP z38 z37 fork_26).2.2 (0 : Int) (by exact ⟨And.left (And.right ‹_ ∧ (backP _ _ _).2.2 = _ ∧ _›), by omega, by omega, by omega⟩); b_gOr (CE := fun (e : Empty) => e.elim) (t_not (t_v (x_call2 (fs := (fp__law_back_to K)) (r := (backP (backP z38 z37 fork_26).2.1 (backP z38 z37 fork_26).2.2 (0 : Int))) 2 1 [kpC (He.ga K "Keeper") k_other45 (kst (s49 : Tx)), lstC p_moments8 (momsOf ((backP (backP z38 z37 fork_26).2.1 (backP z38 z37 fork_26).2.2 (0 : Int)).2.2 : Tx)), kpC (He.ga K "Keeper") k_keeper7 (kst ((backP (backP z38 z37 fork_26).2.1 (backP z38 z37 fork_26).2.2 (0 : Int)).2.1 : Tx)), lstC p_state6 (potL (z39 : Pot))] 1 (k_keeper7, p_moments8, (backP z38 z37 fork_26).2.1, (backP z38 z37 fork_26).2.2, (0 : Int)) (show ((backP z38 z37 fork_26).2.2) = ((backP z38 z37 fork_26).2.1) ∧ ((backP z38 z37 fork_26).2.1).length ≤ 60 ∧ 0 ≤ ((0 : Int)) ∧ ((0 : Int)) ≤ ((backP z38 z37 fork_26).2.1).length from (by exact ⟨And.left (And.right ‹_ ∧ (backP _ _ _).2.2 = _ ∧ _›), by omega, by omega, by omega⟩)) (a_cons (x_var (R := isr k_keeper7.p)) (a_cons (x_var (R := isr p_moments8)) (a_cons (x_int) (a_nil))))))) (fun h56 => b_let (x := (backP (backP z38 z37 fork_26).2.1 (backP z38 z37 fork_26).2.2 (0 : Int)).2.2) (fun (z57 : Tx) => ⟨[some (isq K script_), some (isa (x1 : Int)), some (isr p_state6), some (isr k_keeper7.p), some (isr p_moments8), some (isa (t_41.1 : Tx)), some (isa (t_41.2 : (List Int))), some (isa (fork_26 : Int)), some (isa (first_ones_28 : (List (Tx × (List Int))))), some (isr k_other45.p), none], [kpC (He.ga K "Keeper") k_other45 (kst (s49 : Tx)), lstC p_moments8 (momsOf (z57 : Tx)), kpC (He.ga K "Keeper") k_keeper7 (kst ((backP (backP z38 z37 fork_26).2.1 (backP z38 z37 fork_26).2.2 (0 : Int)).2.1 : Tx)), lstC p_state6 (potL (z39 : Pot))]⟩) (fun z57 hz57 => b_let (x := (backP (backP z38 z37 fork_26).2.1 (backP z38 z37 fork_26).2.2 (0 : Int)).2.1) (fun (z58 : Tx) => ⟨[some (isq K script_), some (isa (x1 : Int)), some (isr p_state6), some (isr k_keeper7.p), some (isr p_moments8), some (isa (t_41.1 : Tx)), some (isa (t_41.2 : (List Int))), some (isa (fork_26 : Int)), some (isa (first_ones_28 : (List (Tx × (List Int))))), some (isr k_other45.p), none], [kpC (He.ga K "Keeper") k_other45 (kst (s49 : Tx)), lstC p_moments8 (momsOf (z57 : Tx)), kpC (He.ga K "Keeper") k_keeper7 (kst (z58 : Tx)), lstC p_state6 (potL (z39 : Pot))]⟩) (fun z58 hz58 => have hlz58 := congrArg List.length hz58; b_retS (r := false) (x_bl)))) (fun h56 => b_gOr (CE := fun (e : Empty) => e.elim) (t_not (t_v (x_callR (fs := (fs__law_stands_so K)) (r := (m_law_stands_so (backP (backP z38 z37 fork_26).2.1 (backP z38 z37 fork_26).2.2 (0 : Int)).2.1 (tx "") ([] : List Int))) (c := kpC (He.ga K "Keeper") k_keeper7 (kst ((backP (backP z38 z37 fork_26).2.1 (backP z38 z37 fork_26).2.2 (0 : Int)).2.1 : Tx))) 2 (k_keeper7, (backP (backP z38 z37 fork_26).2.1 (backP z38 z37 fork_26).2.2 (0 : Int)).2.1, (tx ""), ([] : List Int)) (show ((tx "")).length ≤ 60 ∧ (([] : List Int)).length ≤ 60 from (by walk_at "vc")) (a_cons (x_var (R := isr k_keeper7.p)) (a_cons (x_tx "") (a_cons (XN.frz (n_nil (α := Int))) (a_nil))))))) (fun h59 => b_let (x := (backP (backP z38 z37 fork_26).2.1 (backP z38 z37 fork_26).2.2 (0 : Int)).2.2) (fun (z60 : Tx) => ⟨[some (isq K script_), some (isa (x1 : Int)), some (isr p_state6), some (isr k_keeper7.p), some (isr p_moments8), some (isa (t_41.1 : Tx)), some (isa (t_41.2 : (List Int))), some (isa (fork_26 : Int)), some (isa (first_ones_28 : (List (Tx × (List Int))))), some (isr k_other45.p), none], [kpC (He.ga K "Keeper") k_other45 (kst (s49 : Tx)), lstC p_moments8 (momsOf (z60 : Tx)), kpC (He.ga K "Keeper") k_keeper7 (kst ((backP (backP z38 z37 fork_26).2.1 (backP z38 z37 fork_26).2.2 (0 : Int)).2.1 : Tx)), lstC p_state6 (potL (z39 : Pot))]⟩) (fun z60 hz60 => b_let (x := (backP (backP z38 z37 fork_26).2.1 (backP z38 z37 fork_26).2.2 (0 : Int)).2.1) (fun (z61 : Tx) => ⟨[some (isq K script_), some (isa (x1 : Int)), some (isr p_state6), some (isr k_keeper7.p), some (isr p_moments8), some (isa (t_41.1 : Tx)), some (isa (t_41.2 : (List Int))), some (isa (fork_26 : Int)), some (isa (first_ones_28 : (List (Tx × (List Int))))), some (isr k_other45.p), none], [kpC (He.ga K "Keeper") k_other45 (kst (s49 : Tx)), lstC p_moments8 (momsOf (z60 : Tx)), kpC (He.ga K "Keeper") k_keeper7 (kst (z61 : Tx)), lstC p_state6 (potL (z39 : Pot))]⟩) (fun z61 hz61 => have hlz61 := congrArg List.length hz61; b_retS (r := false) (x_bl)))) (fun h59 => b_guard (CE := fun (e : Empty) => e.elim) (t_not (t_v (x_callR (fs := (fs__law_stands_so K)) (r := (m_law_stands_so s49 t_41.1 t_41.2)) (c := kpC (He.ga K "Keeper") k_other45 (kst (s49 : Tx))) 0 (k_other45, s49, t_41.1, t_41.2) (show (t_41.1).length ≤ 60 ∧ (t_41.2).length ≤ 60 from (by walk_at "vc")) (a_cons (x_var (R := isr k_other45.p)) (a_cons (x_var (R := isa (t_41.1 : Tx))) (a_cons (x_var (R := isa (t_41.2 : (List Int)))) (a_nil))))))) (fun h62 => b_let (x := (backP (backP z38 z37 fork_26).2.1 (backP z38 z37 fork_26).2.2 (0 : Int)).2.2) (fun (z63 : Tx) => ⟨[some (isq K script_), some (isa (x1 : Int)), some (isr p_state6), some (isr k_keeper7.p), some (isr p_moments8), some (isa (t_41.1 : Tx)), some (isa (t_41.2 : (List Int))), some (isa (fork_26 : Int)), some (isa (first_ones_28 : (List (Tx × (List Int))))), some (isr k_other45.p), none], [kpC (He.ga K "Keeper") k_other45 (kst (s49 : Tx)), lstC p_moments8 (momsOf (z63 : Tx)), kpC (He.ga K "Keeper") k_keeper7 (kst ((backP (backP z38 z37 fork_26).2.1 (backP z38 z37 fork_26).2.2 (0 : Int)).2.1 : Tx)), lstC p_state6 (potL (z39 : Pot))]⟩) (fun z63 hz63 => b_let (x := (backP (backP z38 z37 fork_26).2.1 (backP z38 z37 fork_26).2.2 (0 : Int)).2.1) (fun (z64 : Tx) => ⟨[some (isq K script_), some (isa (x1 : Int)), some (isr p_state6), some (isr k_keeper7.p), some (isr p_moments8), some (isa (t_41.1 : Tx)), some (isa (t_41.2 : (List Int))), some (isa (fork_26 : Int)), some (isa (first_ones_28 : (List (Tx × (List Int))))), some (isr k_other45.p), none], [kpC (He.ga K "Keeper") k_other45 (kst (s49 : Tx)), lstC p_moments8 (momsOf (z63 : Tx)), kpC (He.ga K "Keeper") k_keeper7 (kst (z64 : Tx)), lstC p_state6 (potL (z39 : Pot))]⟩) (fun z64 hz64 => have hlz64 := congrArg List.length hz64; b_retS (r := false) (x_bl)))) (fun h62 => b_nil (⟨⟨.inr rfl, .inl rfl, .inl rfl, .inl rfl, .inl rfl, .inl rfl, .inl rfl, .inl rfl, .inl rfl, .inl rfl, .inl rfl, trivial⟩, .cons _ (.cons _ (.cons _ (.cons _ (.slnil))))⟩))))))))))))))))))))))))))))))))) (fun s4 hI5 => b_retS (r := true) (x_bl))
end

/-! ### the head -/
abbrev hk : PySem.W.Hook := He.hookD 6 fa fn
def ob (s : PySem.W.SharedT) : He.AlD := He.obsDG 6 fa fn (HandSHeadRun.getT s)
theorem ob_eq (s : PySem.W.SharedT) : ob s = hk.obs s.abs := He.obsDG_eq (HandSHeadRun.getT_eq s)
abbrev RR : PySem.W.OpenRow := PySem.W.OpenLaw.row PySem.Challenge.rw_meetstretch_k84_whole_keepers_grow_and_c
theorem run (w : World) : HandSHeadRun.RunEq RR (PySem.W.view RR.prog [30]) hk ob 3000 ["MarkError", "NoLetter", "TooMany", "is_whole", "are_marks", "marks_ahead", "over", "over_nets", "least_lacking", "lacking", "is_net", "stands_earlier", "new_stretches", "first_cutting", "MOST", "is_letter", "Keeper", "_law_pot", "_law_take", "_law_some_signs", "_law_next_letter", "_law_stands_so", "_law_grown", "_law_back_to", "_law_words_met"] w := by
  intro os
  kernel_rfl
def spLaw (K : Fg) : Sp := fun vs H Q _ => ∃ (a : Addr) (ns : List Int), vs = [.ref a] ∧ SqL K H a (ns.map V.int) ∧ ns.length ≤ 63 ∧ ∀ H', Q (.bl true) H'
theorem sp_law {K : Fg} (vs : List V) (H : Hp) (Q : VK) (E : XK) (h : spLaw K vs H Q E) : (fs_law K).sp vs H Q E := by
  obtain ⟨a, ns, rfl, hS, hl, hQ⟩ := h
  refine ⟨ns, ?_, H, Same.refl H, ⟨.ref a, [], rfl, ⟨a, rfl, hS⟩, rfl⟩, trivial, fun r e v B1 H1 p q => ?_, fun x e => ?_⟩
  · exact trivial
  · have e2 : m_law ns = r := by injection e
    rw [law_true ns hl] at e2
    subst e2
    have q' : v = .bl true := q
    subst q'
    exact hQ H1
  · cases e
theorem facts {P : Program} {w : World} {K : Fg} {h : Heap} {mg : Str → Option Value} {f : Addr} (X : K.In h) (G : h.Ns mainGlobals mg) (hfa : mg ("law" : Str) = some (.ref f)) (c : He.SaysD fa fn K) :
    ∃ fd : FuncData, (∀ (s : Shared) (v : Value), BindsTo s fd ⟨[v], []⟩ [("script", v)]) ∧ ∀ base : Heap, K.In base → base.Ns mainGlobals mg → FnOk P w K mg base CX0 5 f fd ["script"] (spLaw K) := by
  obtain ⟨fd, F⟩ := c.def_ 26 (d := d_law) rfl
  have e := hfa.symm.trans (He.glo_ok X G (c.fact 49 (f := .glo "law") rfl))
  cases e
  have b := FunD.bindsA (ps := ["script"]) F fun _ _ _ _ _ _ us hl => match us, hl with | [_], _ => rfl
  refine ⟨fd, fun s v => b s [v] rfl, fun base hK hN => ?_⟩
  exact (ok_law (P := P) (w := w) (⟨c, hK, hN⟩ : Md fa fn K mg base) F).imp sp_law
end K84
open PySem PySem.W PySem.Calls PyProof.Rows
theorem PySem.Challenge.cw_meetstretch_k84_whole_keepers_grow_and_c_holds : PySem.Challenge.rw_meetstretch_k84_whole_keepers_grow_and_c.Holds := by
  w_on; o_law
  refine HandSHeadRun.head_any (r := OpenLaw.row PySem.Challenge.rw_meetstretch_k84_whole_keepers_grow_and_c) (q := view (OpenLaw.row PySem.Challenge.rw_meetstretch_k84_whole_keepers_grow_and_c).prog [30]) (H := K84.hk) (ob := K84.ob) (M := 3000) (loose := ["MarkError", "NoLetter", "TooMany", "is_whole", "are_marks", "marks_ahead", "over", "over_nets", "least_lacking", "lacking", "is_net", "stands_earlier", "new_stretches", "first_cutting", "MOST", "is_letter", "Keeper", "_law_pot", "_law_take", "_law_some_signs", "_law_next_letter", "_law_stands_so", "_law_grown", "_law_back_to", "_law_words_met"]) (d := HandSHeadRun.topDef (OpenLaw.row PySem.Challenge.rw_meetstretch_k84_whole_keepers_grow_and_c).prog 30) (kwd := []) K84.ob_eq
    (by kernel_rfl) (fun s => by kernel_rfl) K84.run (by kernel_rfl) (by kernel_rfl) (by kernel_rfl) (by rfl) (by first | assumption | decide +kernel) (by decide +kernel) ⟨rfl, rfl, rfl, rfl, rfl, by decide +kernel⟩ ?hw ?hc
  case hw => w_witness2
  case hc =>
    refine L2.walk_ofE (l := PySem.Challenge.rw_meetstretch_k84_whole_keepers_grow_and_c) (n := 63) (k := 5) (x := "script") (CX := L2.CX0) rfl (by decide) (by kernel_rfl) ⟨rfl, by decide, by decide⟩ ?F (fun _ _ _ _ z => z)
    intro w mg fa h Y G hmg0
    obtain ⟨K, KX, c⟩ := Y
    have hmg : mg ("law" : PySem.Str) = some (.ref fa) := by
      have e : (HandSHeadRun.topDef (OpenLaw.row PySem.Challenge.rw_meetstretch_k84_whole_keepers_grow_and_c).prog 30).name = ("law" : PySem.Str) := by kernel_rfl
      rw [← e]
      exact hmg0
    obtain ⟨fd, hb, hF⟩ := K84.facts (P := (PySem.Challenge.rw_meetstretch_k84_whole_keepers_grow_and_c).prog) (w := w) KX G hmg c
    exact ⟨K, fd, K84.spLaw K, KX, hb, fun H a ns hl _ hS => ⟨a, ns, rfl, hS, hl, fun _ => rfl⟩, hF⟩

